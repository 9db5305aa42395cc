import PyProof.Rows.All
import Wide.All
import OpenK.AllK
import Wide.FinOn
import Lean
import PySem.Challenge.RW_pc0226_01
set_option Elab.async false
set_option maxRecDepth 100000
set_option linter.all false
set_option genInjectivity false
set_option genSizeOf false
set_option genCtorIdx false
set_option bootstrap.genMatcherCode false
namespace Mine
section
set_option tactic.hygienic false
open PySem
noncomputable section
set_option genCtorIdx true in
inductive AV where
  | none
  | bool (b : Bool)
  | int (i : Int)
  | str (s : Str)
  | ref (a : Nat)
set_option genCtorIdx true in
inductive AO where
  | list (xs : List AV)
  | tup (xs : List AV)
  | inst (C : Nat) (fs : List (Nat × AV))
  | dict (es : List (Int × AV))
noncomputable abbrev AH := Nat → Option AO
noncomputable def AH.put (σ : AH) (a : Nat) (o : AO) : AH := fun b => if b = a then some o else σ b
noncomputable abbrev Loc := Nat → Option AV
noncomputable def Loc.put (ρ : Loc) (x : Nat) (v : AV) : Loc := fun y => if y = x then some v else ρ y
noncomputable def Loc.only (ρ : Loc) (caps : List Nat) : Loc := fun y => if y ∈ caps then ρ y else none
noncomputable def getF : List (Nat × AV) → Nat → Option AV
  | [], _ => none
  | (g, v) :: r, f => if g = f then some v else getF r f
noncomputable def setF : List (Nat × AV) → Nat → AV → List (Nat × AV)
  | [], f, v => [(f, v)]
  | (g, w) :: r, f, v => if g = f then (g, v) :: r else (g, w) :: setF r f v
noncomputable def getD : List (Int × AV) → Int → Option AV
  | [], _ => none
  | (g, v) :: r, f => if g = f then some v else getD r f
noncomputable def setD : List (Int × AV) → Int → AV → List (Int × AV)
  | [], f, v => [(f, v)]
  | (g, w) :: r, f, v => if g = f then (g, v) :: r else (g, w) :: setD r f v
noncomputable abbrev EX := AH → Prop
noncomputable abbrev PT := (AV → AH → Prop) → EX → AH → Prop
set_option genCtorIdx true in
inductive IOp where | lt | le | gt | ge | eq | ne
noncomputable def IOp.on : IOp → Int → Int → Bool
  | .lt, i, j => decide (i < j)
  | .le, i, j => decide (i ≤ j)
  | .gt, i, j => decide (j < i)
  | .ge, i, j => decide (j ≤ i)
  | .eq, i, j => decide (i = j)
  | .ne, i, j => !decide (i = j)
set_option genCtorIdx true in
inductive AOp where | add | sub | mul | div | mod | pow
noncomputable def AOp.on : AOp → Int → Int → Int
  | .add, i, j => i + j
  | .sub, i, j => i - j
  | .mul, i, j => i * j
  | .div, i, j => i.fdiv j
  | .mod, i, j => i.fmod j
  | .pow, i, j => i ^ j.toNat
noncomputable def AOp.ok : AOp → Int → Int → Prop
  | .add, _, _ => True
  | .sub, _, _ => True
  | .mul, i, j => i.natAbs ≤ 2 ^ 40 ∧ j.natAbs ≤ 2 ^ 40
  | .div, _, j => j ≠ 0 ∧ j.natAbs < 1073741824
  | .mod, _, j => j ≠ 0
  | .pow, i, j => 0 ≤ j ∧ j ≤ 40 ∧ i.natAbs ≤ 20
inductive U1 where
  | attr (f : Nat)
  | neg
  | isN
  | isNN
  | eqNil
  | neNil
  | not
  | isI (C : Nat)
  | len
  | toL
  | sorted
  | rev
inductive B2 where
  | ar (op : AOp)
  | lcat
  | lmul
  | scat
  | smul
  | cmp (op : IOp)
  | eqd
  | ned
  | inl
  | min
  | max
  | idx
  | didx
set_option genCtorIdx true in
inductive M1 where
  | append
  | popAt
  | extend
  | count
  | dpop
mutual
inductive X where
  | none
  | bool (b : Bool)
  | int (i : Int)
  | str (s : Str)
  | loc (x : Nat)
  | u (o : U1) (a : X)
  | b (o : B2) (a b : X)
  | chain (o₁ o₂ : IOp) (a b c : X)
  | and2 (a b : X)
  | ite (c : T) (a b : X)
  | call (f : Nat) (es : XS)
  | cls (C f : Nat) (es : XS)
  | icall (C f : Nat) (es : XS)
  | mcall (e : X) (C f m : Nat) (es : XS)
  | pop (e : X)
  | m1 (o : M1) (e v : X)
  | list (es : XS)
  | tup (es : XS)
  | dict0
  | slice (e lo hi : X)
  | comp (elt : X) (x : Nat) (caps : List Nat) (src : X)
  | compR (elt : X) (x : Nat) (caps : List Nat) (n : X)
  | compE (src : X)
  | absent
  | bad
inductive XS where
  | nil
  | cons (e : X) (r : XS)
inductive T where
  | e (x : X)
  | tch (o₁ o₂ : IOp) (a b c : X)
  | not (t : T)
  | ands (ts : TS)
  | ors (ts : TS)
inductive TS where
  | nil
  | cons (t : T) (r : TS)
end
mutual
inductive S where
  | assign (x : Nat) (e : X)
  | setA (e : X) (f : Nat) (v : X)
  | setI (e i v : X)
  | setD (e k v : X)
  | setS (e lo hi v : X)
  | unp (x y z : Nat) (es : XS)
  | augN (x : Nat) (op : AOp) (v : X)
  | augA (e : X) (f : Nat) (op : AOp) (v : X)
  | expr (e : X)
  | ite (c : T) (a b : SS)
  | while (c : T) (b : SS)
  | for (x : Nat) (src : X) (b : SS)
  | forR (x : Nat) (lo hi : X) (b : SS)
  | ret (e : X)
  | ret0
  | brk
  | raise
  | try (b h : SS)
  | bad
inductive SS where
  | nil
  | cons (s : S) (r : SS)
end
noncomputable def lim : Nat := 10000
noncomputable def compL (turn : AV → PT) (l : Nat) (xs : List AV) (Q : AV → AH → Prop) (E : EX) : List AV → List AV → AH → Prop
  | [], ys, σ => σ l = some (.list xs) ∧ ∀ a, σ a = none → Q (.ref a) (σ.put a (.list ys))
  | v :: r, ys, σ => σ l = some (.list xs) ∧ turn v (fun y σ => compL turn l xs Q E r (ys ++ [y]) σ) E σ
noncomputable def compN (turn : AV → PT) (Q : AV → AH → Prop) (E : EX) : List AV → List AV → AH → Prop
  | [], ys, σ => ∀ a, σ a = none → Q (.ref a) (σ.put a (.list ys))
  | v :: r, ys, σ => turn v (fun y σ => compN turn Q E r (ys ++ [y]) σ) E σ
noncomputable def intsR (lo hi : Int) : List AV := (List.range (hi - lo).toNat).map fun (k : Nat) => AV.int (lo + (k : Int))
noncomputable def clampI (n : Int) (i : Int) : Int := if i < 0 then max (i + n) 0 else min i n
noncomputable def loB (n : Nat) : AV → Option Nat
  | .none => some 0
  | .int i => some (clampI n i).toNat
  | _ => none
noncomputable def hiB (n : Nat) : AV → Option Nat
  | .none => some n
  | .int i => some (clampI n i).toNat
  | _ => none
noncomputable def cut (xs : List AV) (lo hi : Nat) : List AV := (xs.drop lo).take (hi - lo)
noncomputable def setCut (xs ys : List AV) (lo hi : Nat) : List AV := xs.take lo ++ ys ++ xs.drop (Nat.max lo hi)
noncomputable def place (n : Nat) (i : Int) : Option Nat :=
  if 0 ≤ i then (if i < n then some i.toNat else none) else (if 0 ≤ i + n then some (i + n).toNat else none)
mutual
inductive RdV (σ : AH) : AV → PyData → Prop where
  | none : RdV σ .none .none
  | bool (b) : RdV σ (.bool b) (.bool b)
  | int (i) : RdV σ (.int i) (.int i)
  | str (s) : RdV σ (.str s) (.str s)
  | list {a xs ds} : σ a = some (.list xs) → RdA σ xs ds → RdV σ (.ref a) (.list ds)
  | tup {a xs ds} : σ a = some (.tup xs) → RdA σ xs ds → RdV σ (.ref a) (.tuple ds)
inductive RdA (σ : AH) : List AV → List PyData → Prop where
  | nil : RdA σ [] []
  | cons {v d vs ds} : RdV σ v d → RdA σ vs ds → RdA σ (v :: vs) (d :: ds)
end
structure Ks where
  next : Loc → AH → Prop
  brk : Loc → AH → Prop
  ret : AV → AH → Prop
  exc : Loc → AH → Prop
  raise : AH → Prop
noncomputable abbrev Ks.nx (k : Ks) (f : Loc → AH → Prop) : Ks := ⟨f, k.brk, k.ret, k.exc, k.raise⟩
noncomputable abbrev Ks.lp (k : Ks) (f : Loc → AH → Prop) : Ks := ⟨f, k.next, k.ret, fun Ω Ω => False, fun Ω => False⟩
noncomputable abbrev Ks.fn (Q : AV → AH → Prop) (E : EX) : Ks := ⟨fun Ω σ => Q .none σ, fun Ω Ω => False, Q, fun Ω σ => E σ, E⟩
/-! what a step asks and gives, each as one container -/
inductive IntS (v : AV) (P : Int → Prop) : Prop | mk (i : Int) (e : v = .int i) (q : P i)
inductive BoolS (v : AV) (P : Bool → Prop) : Prop | mk (b : Bool) (e : v = .bool b) (q : P b)
inductive Int2S (v u : AV) (P : Int → Int → Prop) : Prop | mk (i j : Int) (e : v = .int i) (d : u = .int j) (q : P i j)
inductive ListS (v : AV) (σ : AH) (P : Nat → List AV → Prop) : Prop | mk (l : Nat) (xs : List AV) (e : v = .ref l) (h : σ l = some (.list xs)) (q : P l xs)
inductive ListLS (v : AV) (σ : AH) (P : Nat → List AV → Prop) : Prop | mk (l : Nat) (xs : List AV) (e : v = .ref l) (h : σ l = some (.list xs)) (b : xs.length ≤ lim) (q : P l xs)
inductive AttrS (f : Nat) (v : AV) (Q : AV → AH → Prop) (σ : AH) : Prop | mk (a C : Nat) (fs : List (Nat × AV)) (u : AV) (e : v = .ref a) (h : σ a = some (.inst C fs)) (g : getF fs f = some u) (q : Q u σ)
inductive ArS (op : AOp) (v u : AV) (Q : AV → AH → Prop) (σ : AH) : Prop | mk (i j : Int) (e : v = .int i) (d : u = .int j) (ok : op.ok i j) (q : Q (.int (op.on i j)) σ)
inductive IdxS (v u : AV) (Q : AV → AH → Prop) (σ : AH) : Prop | mk (l : Nat) (k : Int) (xs : List AV) (p : Nat) (y : AV) (e : v = .ref l) (d : u = .int k) (h : σ l = some (.list xs)) (b : xs.length ≤ lim) (hp : place xs.length k = some p) (hy : xs[p]? = some y) (q : Q y σ)
inductive LocS (ρ : Loc) (x : Nat) (Q : AV → AH → Prop) (σ : AH) : Prop | mk (v : AV) (e : ρ x = some v) (q : Q v σ)
inductive MCallS (C m : Nat) (v : AV) (σ : AH) (P : Prop) : Prop | mk (a : Nat) (fs : List (Nat × AV)) (e : v = .ref a) (h : σ a = some (.inst C fs)) (g : getF fs m = none) (q : P)
inductive PopS (v : AV) (Q : AV → AH → Prop) (σ : AH) : Prop | mk (l : Nat) (xs : List AV) (u : AV) (e : v = .ref l) (h : σ l = some (.list (xs ++ [u]))) (b : xs.length ≤ lim) (q : Q u (σ.put l (.list xs)))
inductive SliceS (t u v : AV) (Q : AV → AH → Prop) (σ : AH) : Prop | mk (l : Nat) (xs : List AV) (i j : Nat) (e : t = .ref l) (h : σ l = some (.list xs)) (b : xs.length ≤ lim) (hi : loB xs.length u = some i) (hj : hiB xs.length v = some j) (q : ∀ a, σ a = none → Q (.ref a) (σ.put a (.list (cut xs i j))))
inductive SetAS (f : Nat) (t u : AV) (P : AH → Prop) (σ : AH) : Prop | mk (a C : Nat) (fs : List (Nat × AV)) (e : t = .ref a) (h : σ a = some (.inst C fs)) (b : fs.length ≤ 100) (q : P (σ.put a (.inst C (setF fs f u))))
inductive SetIS (t w u : AV) (P : AH → Prop) (σ : AH) : Prop | mk (l : Nat) (j : Int) (xs : List AV) (p : Nat) (e : t = .ref l) (d : w = .int j) (h : σ l = some (.list xs)) (b : xs.length ≤ lim) (hp : place xs.length j = some p) (q : P (σ.put l (.list (xs.set p u))))
inductive SetSS (t u w z : AV) (P : AH → Prop) (σ : AH) : Prop | mk (l m : Nat) (xs ys : List AV) (i j : Nat) (e : t = .ref l) (d : u = .ref m) (ne : m ≠ l) (h : σ l = some (.list xs)) (h2 : σ m = some (.list ys)) (b : xs.length + ys.length ≤ lim) (hi : loB xs.length w = some i) (hj : hiB xs.length z = some j) (q : P (σ.put l (.list (setCut xs ys i j))))
noncomputable def sem1 : U1 → AV → (AV → AH → Prop) → AH → Prop
  | .attr f, v, Q, σ => AttrS f v Q σ
  | .neg, v, Q, σ => IntS v fun i => Q (.int (-i)) σ
  | .isN, v, Q, σ => (v = .none → Q (.bool true) σ) ∧ (v ≠ .none → Q (.bool false) σ)
  | .isNN, v, Q, σ => (v = .none → Q (.bool false) σ) ∧ (v ≠ .none → Q (.bool true) σ)
  | .eqNil, v, Q, σ => ListS v σ fun Ω xs => Q (.bool (xs.isEmpty)) σ
  | .neNil, v, Q, σ => ListS v σ fun Ω xs => Q (.bool (!xs.isEmpty)) σ
  | .not, v, Q, σ => BoolS v fun b => Q (.bool !b) σ
  | .isI C, v, Q, σ => (∀ l, v = .ref l → ∃ D fs, σ l = some (.inst D fs) ∧ Q (.bool (D == C)) σ) ∧ ((∀ l, v ≠ .ref l) → Q (.bool false) σ)
  | .len, v, Q, σ => ListLS v σ fun Ω xs => Q (.int xs.length) σ
  | .toL, v, Q, σ => ListLS v σ fun Ω xs => ∀ a, σ a = none → Q (.ref a) (σ.put a (.list xs))
  | .sorted, v, Q, σ => ∃ l es, v = .ref l ∧ σ l = some (.dict es) ∧ es.length < 64 ∧ ∀ a (ns : List Int), σ a = none → ns.Perm (es.map (·.1)) → ns.Pairwise (· ≤ ·) → Q (.ref a) (σ.put a (.list (ns.map AV.int)))
  | .rev, v, Q, σ => ListLS v σ fun Ω xs => ∀ a, σ a = none → Q (.ref a) (σ.put a (.list xs.reverse))
noncomputable def sem2 : B2 → AV → AV → (AV → AH → Prop) → AH → Prop
  | .ar op, v, u, Q, σ => ArS op v u Q σ
  | .lcat, v, u, Q, σ => ∃ l m xs ys, v = .ref l ∧ u = .ref m ∧ σ l = some (.list xs) ∧ σ m = some (.list ys) ∧ xs.length + ys.length ≤ lim ∧ ∀ a, σ a = none → Q (.ref a) (σ.put a (.list (xs ++ ys)))
  | .lmul, v, u, Q, σ => ∃ l k xs, v = .ref l ∧ u = .int k ∧ σ l = some (.list xs) ∧ (-(2 ^ 63 : Int) ≤ k ∧ k ≤ lim) ∧ xs.length * k.toNat ≤ lim ∧ ∀ a, σ a = none → Q (.ref a) (σ.put a (.list (List.replicate k.toNat xs).flatten))
  | .scat, v, u, Q, σ => ∃ s t, v = .str s ∧ u = .str t ∧ s.length + t.length ≤ lim ∧ Q (.str (s ++ t)) σ
  | .smul, v, u, Q, σ => ∃ s k, v = .str s ∧ u = .int k ∧ 0 ≤ k ∧ k ≤ 90 ∧ s.length ≤ 100 ∧ PyData.strOk s = true ∧ ∀ t : Str, t.length ≤ 9000 → PyData.strOk t = true → Q (.str t) σ
  | .cmp op, v, u, Q, σ => Int2S v u fun i j => Q (.bool (op.on i j)) σ
  | .eqd, v, u, Q, σ => ∃ d e, RdV σ v d ∧ RdV σ u e ∧ SeqAt.shaped d = true ∧ SeqAt.shaped e = true ∧ Q (.bool (PyData.eqv d e)) σ
  | .ned, v, u, Q, σ => ∃ d e, RdV σ v d ∧ RdV σ u e ∧ SeqAt.shaped d = true ∧ SeqAt.shaped e = true ∧ Q (.bool (!PyData.eqv d e)) σ
  | .inl, v, u, Q, σ => ∃ l d ds, u = .ref l ∧ RdV σ v d ∧ SeqAt.shaped d = true ∧ PyData.canLayAll0 ds = true ∧ PyData.depthAll ds ≤ 8 ∧ (RdV σ u (.list ds) ∨ RdV σ u (.tuple ds)) ∧ Q (.bool (ds.any fun y => PyData.eqv y d)) σ
  | .min, v, u, Q, σ => Int2S v u fun i j => Q (.int (if j < i then j else i)) σ
  | .max, v, u, Q, σ => Int2S v u fun i j => Q (.int (if i < j then j else i)) σ
  | .idx, v, u, Q, σ => IdxS v u Q σ
  | .didx, v, u, Q, σ => ∃ l i es y, v = .ref l ∧ u = .int i ∧ σ l = some (.dict es) ∧ getD es i = some y ∧ Q y σ
noncomputable def preM : M1 → AV → AH → Prop
  | .dpop, t, σ => ∃ l es, t = .ref l ∧ σ l = some (.dict es)
  | _, t, σ => ∃ l xs, t = .ref l ∧ σ l = some (.list xs)
noncomputable def semM : M1 → AV → AV → (AV → AH → Prop) → AH → Prop
  | .append, t, u, Q, σ => ∃ l xs, t = .ref l ∧ σ l = some (.list xs) ∧ xs.length < lim ∧ Q .none (σ.put l (.list (xs ++ [u])))
  | .popAt, t, u, Q, σ => ∃ l k xs p y, t = .ref l ∧ u = .int k ∧ σ l = some (.list xs) ∧ xs.length ≤ lim ∧ place xs.length k = some p ∧ xs[p]? = some y ∧ Q y (σ.put l (.list (xs.eraseIdx p)))
  | .extend, t, u, Q, σ => ∃ l m xs ys, t = .ref l ∧ u = .ref m ∧ m ≠ l ∧ σ l = some (.list xs) ∧ σ m = some (.list ys) ∧ xs.length + ys.length ≤ lim ∧ Q .none (σ.put l (.list (xs ++ ys)))
  | .count, t, u, Q, σ => ∃ ds d, RdV σ t (.list ds) ∧ RdV σ u d ∧ SeqAt.shaped (.list ds) = true ∧ SeqAt.shaped d = true ∧ Q (.int (ds.countP fun y => PyData.eqv y d)) σ
  | .dpop, t, u, Q, σ => ∃ l i, t = .ref l ∧ u = .int i ∧ σ l = some (.dict []) ∧ Q .none σ
mutual
noncomputable def ev (Φ : Nat → List AV → PT) : X → Loc → (AV → AH → Prop) → EX → AH → Prop
  | .none, _, Q, _, σ => Q .none σ
  | .bool b, _, Q, _, σ => Q (.bool b) σ
  | .int i, _, Q, _, σ => Q (.int i) σ
  | .str s, _, Q, _, σ => Q (.str s) σ
  | .loc x, ρ, Q, _, σ => LocS ρ x Q σ
  | .u o a, ρ, Q, E, σ => ev Φ a ρ (fun v σ => sem1 o v Q σ) E σ
  | .b o a b, ρ, Q, E, σ => ev Φ a ρ (fun v σ => ev Φ b ρ (fun u σ => sem2 o v u Q σ) E σ) E σ
  | .chain o₁ o₂ a b c, ρ, Q, E, σ => ev Φ a ρ (fun v σ => ev Φ b ρ (fun u σ => Int2S v u fun i j => (o₁.on i j = false → Q (.bool false) σ) ∧
      (o₁.on i j = true → ev Φ c ρ (fun t σ => IntS t fun k => Q (.bool (o₂.on j k)) σ) E σ)) E σ) E σ
  | .and2 a b, ρ, Q, E, σ => ev Φ a ρ (fun v σ => BoolS v fun t => (t = false → Q (.bool false) σ) ∧ (t = true → ev Φ b ρ (fun u σ => BoolS u fun t => Q (.bool t) σ) E σ)) E σ
  | .ite c a b, ρ, Q, E, σ => tst Φ c ρ (fun t σ => (t = true → ev Φ a ρ Q E σ) ∧ (t = false → ev Φ b ρ Q E σ)) E σ
  | .call f es, ρ, Q, E, σ => evs Φ es ρ (fun vs σ => Φ f vs Q E σ) E σ
  | .cls C f es, ρ, Q, E, σ => evs Φ es ρ (fun vs σ => ∀ a, σ a = none → Φ f (.ref a :: vs) (fun u σ => u = .none ∧ Q (.ref a) σ) (fun Ω => False) (σ.put a (.inst C []))) E σ
  | .icall _ f es, ρ, Q, E, σ => evs Φ es ρ (fun vs σ => Φ f vs Q E σ) E σ
  | .mcall e C f m es, ρ, Q, E, σ => ev Φ e ρ (fun v σ => MCallS C m v σ (evs Φ es ρ (fun vs σ => Φ f (v :: vs) Q E σ) E σ)) E σ
  | .pop e, ρ, Q, E, σ => ev Φ e ρ (fun t σ => PopS t Q σ) E σ
  | .m1 o e v, ρ, Q, E, σ => ev Φ e ρ (fun t σ => preM o t σ ∧ ev Φ v ρ (fun u σ => semM o t u Q σ) E σ) E σ
  | .list es, ρ, Q, E, σ => evs Φ es ρ (fun vs σ => vs.length ≤ lim ∧ ∀ a, σ a = none → Q (.ref a) (σ.put a (.list vs))) E σ
  | .tup es, ρ, Q, E, σ => evs Φ es ρ (fun vs σ => vs.length ≤ lim ∧ ∀ a, σ a = none → Q (.ref a) (σ.put a (.tup vs))) E σ
  | .dict0, _, Q, _, σ => ∀ a, σ a = none → Q (.ref a) (σ.put a (.dict []))
  | .slice e lo hi, ρ, Q, E, σ => ev Φ e ρ (fun t σ => ev Φ lo ρ (fun u σ => ev Φ hi ρ (fun v σ => SliceS t u v Q σ) E σ) E σ) E σ
  | .comp elt x caps src, ρ, Q, E, σ => ev Φ src ρ (fun t σ => ListLS t σ fun l xs => compL (fun v Q E σ => ev Φ elt ((ρ.only caps).put x v) Q E σ) l xs Q E xs [] σ) E σ
  | .compR elt x caps n, ρ, Q, E, σ => ev Φ n ρ (fun t σ => IntS t fun k => -lim ≤ k ∧ k ≤ lim ∧ compN (fun v Q E σ => ev Φ elt ((ρ.only caps).put x v) Q E σ) Q E (intsR 0 k) [] σ) E σ
  | .compE src, ρ, Q, E, σ => ev Φ src ρ (fun t σ => ∃ l, t = .ref l ∧ σ l = some (.list []) ∧ ∀ a, σ a = none → Q (.ref a) (σ.put a (.list []))) E σ
  | .absent, _, Q, _, σ => Q .none σ
  | .bad, _, _, _, _ => False
noncomputable def evs (Φ : Nat → List AV → PT) : XS → Loc → (List AV → AH → Prop) → EX → AH → Prop
  | .nil, _, Q, _, σ => Q [] σ
  | .cons e r, ρ, Q, E, σ => ev Φ e ρ (fun v σ => evs Φ r ρ (fun vs σ => Q (v :: vs) σ) E σ) E σ
noncomputable def tst (Φ : Nat → List AV → PT) : T → Loc → (Bool → AH → Prop) → EX → AH → Prop
  | .e x, ρ, Q, E, σ => ev Φ x ρ (fun v σ => BoolS v fun b => Q b σ) E σ
  | .tch o₁ o₂ a b c, ρ, Q, E, σ => ev Φ a ρ (fun v σ => ev Φ b ρ (fun u σ => Int2S v u fun i j => (o₁.on i j = false → BoolS (.bool false) fun b => Q b σ) ∧
      (o₁.on i j = true → ev Φ c ρ (fun t σ => IntS t fun k => BoolS (.bool (o₂.on j k)) fun b => Q b σ) E σ)) E σ) E σ
  | .not a, ρ, Q, E, σ => tst Φ a ρ (fun b σ => Q (!b) σ) E σ
  | .ands es, ρ, Q, E, σ => tstAnd Φ es ρ Q E σ
  | .ors es, ρ, Q, E, σ => tstOr Φ es ρ Q E σ
noncomputable def tstAnd (Φ : Nat → List AV → PT) : TS → Loc → (Bool → AH → Prop) → EX → AH → Prop
  | .nil, _, Q, _, σ => Q true σ
  | .cons e r, ρ, Q, E, σ => tst Φ e ρ (fun b σ => (b = false → Q false σ) ∧ (b = true → tstAnd Φ r ρ Q E σ)) E σ
noncomputable def tstOr (Φ : Nat → List AV → PT) : TS → Loc → (Bool → AH → Prop) → EX → AH → Prop
  | .nil, _, Q, _, σ => Q false σ
  | .cons e r, ρ, Q, E, σ => tst Φ e ρ (fun b σ => (b = true → Q true σ) ∧ (b = false → tstOr Φ r ρ Q E σ)) E σ
end
noncomputable def whileN (test : Loc → (Bool → AH → Prop) → AH → Prop) (body : Loc → Ks → AH → Prop) (k : Ks) : Nat → Loc → AH → Prop
  | 0, _, _ => False
  | n + 1, ρ, σ => test ρ (fun b σ => (b = false → k.next ρ σ) ∧ (b = true → body ρ (Ks.lp k (whileN test body k n)) σ)) σ
noncomputable def forL (body : Loc → Ks → AH → Prop) (x l : Nat) (xs : List AV) (k : Ks) : List AV → Loc → AH → Prop
  | [], ρ, σ => σ l = some (.list xs) ∧ k.next ρ σ
  | v :: r, ρ, σ => σ l = some (.list xs) ∧ body (ρ.put x v) (Ks.lp k (forL body x l xs k r)) σ
noncomputable def forN (body : Loc → Ks → AH → Prop) (x : Nat) (k : Ks) : List AV → Loc → AH → Prop
  | [], ρ, σ => k.next ρ σ
  | v :: r, ρ, σ => body (ρ.put x v) (Ks.lp k (forN body x k r)) σ
noncomputable def putAll : List Nat → List AV → Loc → Option Loc
  | [], [], ρ => some ρ
  | x :: xs, v :: vs, ρ => putAll xs vs (ρ.put x v)
  | _, _, _ => none
mutual
noncomputable def ex (Φ : Nat → List AV → PT) : S → Loc → Ks → AH → Prop
  | .assign x e, ρ, k, σ => ev Φ e ρ (fun v σ => k.next (ρ.put x v) σ) (k.exc ρ) σ
  | .setA e f v, ρ, k, σ => ev Φ v ρ (fun u σ => ev Φ e ρ (fun t σ => SetAS f t u (k.next ρ) σ) (k.exc ρ) σ) (k.exc ρ) σ
  | .setI e i v, ρ, k, σ => ev Φ v ρ (fun u σ => ev Φ e ρ (fun t σ => ev Φ i ρ (fun w σ => SetIS t w u (k.next ρ) σ) (k.exc ρ) σ) (k.exc ρ) σ) (k.exc ρ) σ
  | .setD e i v, ρ, k, σ => ev Φ v ρ (fun u σ => ev Φ e ρ (fun t σ => ev Φ i ρ (fun w σ => ∃ l j es, t = .ref l ∧ w = .int j ∧ σ l = some (.dict es) ∧ es.length ≤ 1000 ∧ k.next ρ (σ.put l (.dict (setD es j u)))) (k.exc ρ) σ) (k.exc ρ) σ) (k.exc ρ) σ
  | .setS e lo hi v, ρ, k, σ => ev Φ v ρ (fun u σ => ev Φ e ρ (fun t σ => ev Φ lo ρ (fun w σ => ev Φ hi ρ (fun z σ => SetSS t u w z (k.next ρ) σ) (k.exc ρ) σ) (k.exc ρ) σ) (k.exc ρ) σ) (k.exc ρ) σ
  | .unp x y z es, ρ, k, σ => evs Φ es ρ (fun vs σ => ∃ ρ', putAll [x, y, z] vs ρ = some ρ' ∧ k.next ρ' σ) (k.exc ρ) σ
  | .augN x op v, ρ, k, σ => ∃ i, ρ x = some (.int i) ∧ ev Φ v ρ (fun u σ => ∃ j, u = .int j ∧ op.ok i j ∧ k.next (ρ.put x (.int (op.on i j))) σ) (k.exc ρ) σ
  | .augA e f op v, ρ, k, σ => ev Φ e ρ (fun t σ => ∃ a C fs i, t = .ref a ∧ σ a = some (.inst C fs) ∧ getF fs f = some (.int i) ∧
      ev Φ v ρ (fun u σ => ∃ fs j, σ a = some (.inst C fs) ∧ fs.length ≤ 100 ∧ u = .int j ∧ op.ok i j ∧ k.next ρ (σ.put a (.inst C (setF fs f (.int (op.on i j)))))) (k.exc ρ) σ) (k.exc ρ) σ
  | .expr e, ρ, k, σ => ev Φ e ρ (fun Ω σ => k.next ρ σ) (k.exc ρ) σ
  | .ite c a b, ρ, k, σ => tst Φ c ρ (fun t σ => (t = true → exs Φ a ρ k σ) ∧ (t = false → exs Φ b ρ k σ)) (k.exc ρ) σ
  | .while c b, ρ, k, σ => ∃ n, whileN (fun ρ Q σ => tst Φ c ρ Q (fun Ω => False) σ) (fun ρ k σ => exs Φ b ρ k σ) k n ρ σ
  | .for x e b, ρ, k, σ => ev Φ e ρ (fun t σ => ListS t σ fun l xs => forL (fun ρ k σ => exs Φ b ρ k σ) x l xs k xs ρ σ) (k.exc ρ) σ
  | .forR x lo hi b, ρ, k, σ => ev Φ lo ρ (fun t σ => ev Φ hi ρ (fun u σ => Int2S t u fun i j => (-lim ≤ i ∧ i ≤ lim) ∧ (-lim ≤ j ∧ j ≤ lim) ∧ forN (fun ρ k σ => exs Φ b ρ k σ) x k (intsR i j) ρ σ) (k.exc ρ) σ) (k.exc ρ) σ
  | .ret e, ρ, k, σ => ev Φ e ρ k.ret (k.exc ρ) σ
  | .ret0, _, k, σ => k.ret .none σ
  | .brk, ρ, k, σ => k.brk ρ σ
  | .raise, _, k, σ => k.raise σ
  | .try b h, ρ, k, σ => exs Φ b ρ { next := k.next, brk := fun Ω Ω => False, ret := k.ret, exc := fun ρ σ => exs Φ h ρ { k with raise := fun Ω => False, exc := fun Ω Ω => False } σ, raise := fun Ω => False } σ
  | .bad, _, _, _ => False
noncomputable def exs (Φ : Nat → List AV → PT) : SS → Loc → Ks → AH → Prop
  | .nil, ρ, k, σ => k.next ρ σ
  | .cons s r, ρ, k, σ => ex Φ s ρ (Ks.nx k (fun ρ σ => exs Φ r ρ k σ)) σ
end
structure FI where
  params : List Nat
  dflt : List AV
  body : SS
noncomputable def bindF (f : FI) (vs : List AV) : Option Loc :=
  putAll f.params (vs ++ f.dflt) fun Ω => none
inductive CallS (fi : Nat → Option FI) (f : Nat) (vs : List AV) (P : FI → Loc → Prop) : Prop | mk (F : FI) (ρ : Loc) (e : fi f = some F) (b : bindF F vs = some ρ) (q : P F ρ)
noncomputable def callF (fi : Nat → Option FI) : Nat → Nat → List AV → PT
  | 0, _, _, _, _, _ => False
  | n + 1, f, vs, Q, E, σ => CallS fi f vs fun F ρ => exs (callF fi n) F.body ρ (Ks.fn Q E) σ
end
end
section
set_option tactic.hygienic false
open PySem PySem.W PySem.Calls PyProof.Rows
theorem wpAny_ifF {α : Type} {M : Model} {A : Around} {E : Value → Shared → Prop} {s : Shared} {c : Prop} [Decidable c] {x y : Sem α} {Q : α → Shared → Prop} (h : ¬ c) (k : wpAny M A y Q E s) : wpAny M A (if c then x else y) Q E s := (if_neg h).symm ▸ k
theorem wpAny_ifT {α : Type} {M : Model} {A : Around} {E : Value → Shared → Prop} {s : Shared} {c : Prop} [Decidable c] {x y : Sem α} {Q : α → Shared → Prop} (h : c) (k : wpAny M A x Q E s) : wpAny M A (if c then x else y) Q E s := (if_pos h).symm ▸ k
theorem mem_sw {α : Type} {x y : α} {l : List α} {q : α} (h : q ∈ x :: y :: l) : q ∈ y :: x :: l := (List.Perm.swap y x l).mem_iff.mp h
theorem mem_sh {α : Type} {x : α} {a u v : List α} {q : α} (h : q ∈ a ++ (x :: (u ++ v))) : q ∈ u ++ (x :: (a ++ v)) :=
  (List.mem_append.mp h).elim (fun h => List.mem_append_right _ (.tail _ (List.mem_append_left _ h))) fun h => (List.mem_cons.mp h).elim (fun h => List.mem_append_right _ (h ▸ .head _)) fun h => (List.mem_append.mp h).elim (List.mem_append_left _) fun h => List.mem_append_right _ (.tail _ (List.mem_append_right _ h))
theorem mem_r3 {α : Type} {x y z : α} {u v : List α} {q : α} (h : q ∈ x :: y :: z :: (u ++ v)) : q ∈ u ++ (z :: y :: x :: v) :=
  (List.mem_cons.mp h).elim (fun h => List.mem_append_right _ (.tail _ (.tail _ (h ▸ .head _)))) fun h => (List.mem_cons.mp h).elim (fun h => List.mem_append_right _ (.tail _ (h ▸ .head _))) fun h => (List.mem_cons.mp h).elim (fun h => List.mem_append_right _ (h ▸ .head _)) fun h =>
    (List.mem_append.mp h).elim (List.mem_append_left _) fun h => List.mem_append_right _ (.tail _ (.tail _ (.tail _ h)))
theorem mem_r1 {α : Type} {x : α} {u v : List α} {q : α} (h : q ∈ u ++ (x :: v)) : q ∈ x :: (u ++ v) := List.perm_middle.mem_iff.mp h
theorem ne_c {α β : Type} {x : α × β} {l : List (α × β)} {a : α} (h : x.1 ≠ a) (k : ∀ q ∈ l, q.1 ≠ a) : ∀ q ∈ x :: l, q.1 ≠ a := fun q m => (List.mem_cons.mp m).elim (fun e => e ▸ h) (k q)
theorem ext_le {α : Type} (xs : Array α) (i j : Nat) : (xs.extract i j).size ≤ xs.size := by
  rw [Array.size_extract]
  exact Nat.le_trans (Nat.sub_le _ _) (Nat.min_le_right _ _)
inductive VR : Value → AV → Prop where
  | none : VR .none .none
  | bool (b : Bool) : VR (.bool b) (.bool b)
  | int (i : Int) (t : Tok) : VR (.int i t) (.int i)
  | str (s : Str) (t : Tok) : VR (.str s t) (.str s)
  | ref (a : Nat) : VR (.ref a) (.ref a)
inductive VRs : List Value → List AV → Prop where
  | nil : VRs [] []
  | cons {v x vs xs} : VR v x → VRs vs xs → VRs (v :: vs) (x :: xs)
inductive GetR (o : Option Value) (x : AV) : Prop | mk (v : Value) (e : o = some v) (r : VR v x)
theorem VRs.length {vs xs} (h : VRs vs xs) : vs.length = xs.length := by induction h with | nil => rfl | cons _ _ ih => simp [ih]
theorem VRs.append {vs xs us ys} (h : VRs vs xs) (k : VRs us ys) : VRs (vs ++ us) (xs ++ ys) := by
  induction h with | nil => exact k | cons a _ ih => exact .cons a ih
theorem VRs.get {vs : List Value} {xs : List AV} (h : VRs vs xs) : ∀ {i : Nat} {x : AV}, xs[i]? = some x → GetR vs[i]? x := by
  induction h with
  | nil => intro i x e; simp at e
  | cons a _ ih => intro i x e; cases i with
    | zero => simp at e; subst e; exact ⟨_, rfl, a⟩
    | succ i => simp at e; simpa using ih e
theorem VRs.take {vs xs} (h : VRs vs xs) : ∀ n, VRs (vs.take n) (xs.take n) := by
  induction h with
  | nil => intro n; simp; exact .nil
  | cons a _ ih => intro n; cases n with | zero => exact .nil | succ n => exact .cons a (ih n)
theorem VRs.drop {vs xs} (h : VRs vs xs) : ∀ n, VRs (vs.drop n) (xs.drop n) := by
  induction h with
  | nil => intro n; simp; exact .nil
  | cons a b ih => intro n; cases n with | zero => exact .cons a b | succ n => exact ih n
theorem VRs.set {vs xs v x} (h : VRs vs xs) (k : VR v x) : ∀ n, VRs (vs.set n v) (xs.set n x) := by
  induction h with
  | nil => intro n; exact .nil
  | cons a b ih => intro n; cases n with | zero => exact .cons k b | succ n => exact .cons a (ih n)
theorem VRs.eraseIdx {vs xs} (h : VRs vs xs) : ∀ n, VRs (vs.eraseIdx n) (xs.eraseIdx n) := by
  induction h with
  | nil => intro n; exact .nil
  | cons a b ih => intro n; cases n with | zero => exact b | succ n => exact .cons a (ih n)
theorem VRs.reverse {vs xs} (h : VRs vs xs) : VRs vs.reverse xs.reverse := by
  induction h with
  | nil => exact .nil
  | cons a b ih => rw [List.reverse_cons, List.reverse_cons]; exact ih.append (.cons a .nil)
theorem VRs.snoc {vs xs x} (h : VRs vs (xs ++ [x])) : ∃ us v, vs = us ++ [v] ∧ VRs us xs ∧ VR v x := by
  have e : ∀ {vs zs}, VRs vs zs → ∀ xs x, zs = xs ++ [x] → ∃ us v, vs = us ++ [v] ∧ VRs us xs ∧ VR v x := by
    intro vs zs h
    induction h with
    | nil => intro xs x e; simp at e
    | cons a b ih =>
      intro xs x e
      cases xs with
      | nil => simp at e; obtain ⟨rfl, rfl⟩ := e; cases b; exact ⟨[], _, rfl, .nil, a⟩
      | cons y ys =>
        simp at e; obtain ⟨rfl, e⟩ := e
        obtain ⟨us, v, rfl, c, d⟩ := ih ys x e
        exact ⟨_ :: us, v, rfl, .cons a c, d⟩
  exact e h xs x rfl
noncomputable abbrev Nm := Nat → Str
inductive FR (nm : Nm) (nf : Nat) : List DictEntry → List (Nat × AV) → Prop where
  | nil : FR nm nf [] []
  | cons {h t v f x es fs} : f < nf → VR v x → FR nm nf es fs → FR nm nf (⟨h, .str (nm f) t, v⟩ :: es) ((f, x) :: fs)
inductive KR : List (Int × Value) → List (Int × AV) → Prop where
  | nil : KR [] []
  | cons {i v x es fs} : VR v x → KR es fs → KR ((i, v) :: es) ((i, x) :: fs)
structure Gb where
  prog : Program
  w : World
  K : Frag
  p : Program
  loose : List Str
  mg : Str → Option Value
  mb : Str → Option Value
  nm : Nm
  nf : Nat
  nN : Nat
  cs : List Nat
  ics : List Nat
  die : Nat
  fa : Nat → Nat
structure Cx where
  base : Heap
  L : Addr
  m : Str → Option Value
  keep : List (Addr × Obj)
  s₀ : Shared
  cells : List (Addr × Obj) := []
noncomputable def Cx.all (c : Cx) : List (Addr × Obj) := c.cells ++ c.keep
inductive InList (led : List (Addr × Obj)) (a : Nat) (xs : List AV) : Prop | mk (vs : List Value) (n : Nat) (m : (a, listOf (List.toArray vs) n) ∈ led) (r : VRs vs xs)
inductive InTup (led : List (Addr × Obj)) (a : Nat) (xs : List AV) : Prop | mk (o : Obj) (vs : List Value) (n : Nat) (m : (a, o) ∈ led) (c : o.cls = .type "tuple") (d : o.data = .seq (List.toArray vs) n) (r : VRs vs xs)
inductive InInst (g : Gb) (D : Nat → Nat) (led : List (Addr × Obj)) (a C : Nat) (fs : List (Nat × AV)) : Prop | mk (m : (a, instObj C (D a)) ∈ led) (es : List DictEntry) (n : Nat) (m2 : (D a, dictOf es n) ∈ led) (hC : C ∈ g.cs) (r : FR g.nm g.nf es fs)
inductive DictR (g : Gb) (h : Heap) (a : Nat) (ds : List (Int × AV)) : Prop | mk (kvs : List (Int × Value)) (d : h.DictOf (intKind g.prog g.w) a kvs) (r : KR kvs ds)
inductive InDict (g : Gb) (led : List (Addr × Obj)) (a : Nat) (ds : List (Int × AV)) : Prop | mk (o : Obj) (m : (a, o) ∈ led) (n : (a == sysModules) = false) (k : ∀ h : Heap, h.get? a = some o → DictR g h a ds)
noncomputable def InLed (g : Gb) (D : Nat → Nat) (led : List (Addr × Obj)) (a : Nat) : AO → Prop
  | .list xs => InList led a xs
  | .tup xs => InTup led a xs
  | .inst C fs => InInst g D led a C fs
  | .dict ds => InDict g led a ds
noncomputable def Own (σ : AH) (D : Nat → Nat) (b : Nat) : Prop := σ b ≠ none ∨ ∃ a C fs, σ a = some (.inst C fs) ∧ D a = b
structure Led (g : Gb) (σ : AH) (D : Nat → Nat) (led : List (Addr × Obj)) : Prop where
  nd : (led.map (·.1)).Nodup
  obj : ∀ a o, σ a = some o → InLed g D led a o
  inj : ∀ a b C fs C' fs', σ a = some (.inst C fs) → σ b = some (.inst C' fs') → D a = D b → a = b
  sep : ∀ a C fs, σ a = some (.inst C fs) → σ (D a) = none
structure At (c : Cx) (led : List (Addr × Obj)) (s : Shared) : Prop where
  fr : Fr c.base c.L s.heap c.m
  news : News c.base c.L s.heap led
  gens : s.gens = c.s₀.gens
  drawn : s.drawn = c.s₀.drawn
  os : s.os = c.s₀.os
noncomputable def KeepR (o o' : Obj) : Prop := o' = o ∨ ∃ es n sl, o.data = .dict es n ∧ o' = { o with slots := sl }
theorem KeepR.rfl {o : Obj} : KeepR o o := .inl _root_.rfl
theorem KeepR.data {o o' : Obj} (h : KeepR o o') : o'.data = o.data := by
  rcases h with h | ⟨_, _, _, _, h⟩ <;> subst h <;> rfl
inductive KpAt (led : List (Addr × Obj)) (q : Addr × Obj) : Prop | mk (o : Obj) (m : (q.1, o) ∈ led) (k : KeepR q.2 o)
inductive Kq (σ : AH) (D : Nat → Nat) (led : List (Addr × Obj)) (q : Addr × Obj) : Prop | mk (h : KpAt led q) (no : ¬ Own σ D q.1)
theorem Kq.no {σ : AH} {D : Nat → Nat} {led : List (Addr × Obj)} {q : Addr × Obj} : Kq σ D led q → ¬ Own σ D q.1 | .mk _ n => n
noncomputable def Kp (c : Cx) (σ : AH) (D : Nat → Nat) (led : List (Addr × Obj)) : Prop := ∀ q ∈ c.all, Kq σ D led q
inductive Inv (g : Gb) (c : Cx) (σ : AH) (s : Shared) : Prop | mk (D : Nat → Nat) (led : List (Addr × Obj)) (H : Led g σ D led) (A : At c led s) (K : Kp c σ D led)
noncomputable def puto (led : List (Addr × Obj)) (a : Addr) (o : Obj) : List (Addr × Obj) := led.map fun p => if p.1 = a then (a, o) else p
theorem puto_keys (led : List (Addr × Obj)) (a : Addr) (o : Obj) : (puto led a o).map (·.1) = led.map (·.1) := by
  unfold puto
  rw [List.map_map]
  refine List.map_congr_left fun p Ω => ?_
  by_cases h : p.1 = a <;> simp [h]
theorem mem_puto {led : List (Addr × Obj)} {a : Addr} {o : Obj} {p : Addr × Obj} (h : p ∈ led) (n : p.1 ≠ a) : p ∈ puto led a o :=
  List.mem_map.mpr ⟨p, h, by simp [n]⟩
theorem mem_puto_self {led : List (Addr × Obj)} {a : Addr} {o o' : Obj} (h : (a, o') ∈ led) : (a, o) ∈ puto led a o :=
  List.mem_map.mpr ⟨_, h, by simp⟩
theorem of_puto {led : List (Addr × Obj)} {a : Addr} {o : Obj} {p : Addr × Obj} (h : p ∈ puto led a o) : p = (a, o) ∨ (p ∈ led ∧ p.1 ≠ a) := by
  obtain ⟨q, hq, e⟩ := List.mem_map.mp h
  by_cases n : q.1 = a
  · simp [n] at e; exact .inl e.symm
  · simp [n] at e; subst e; exact .inr ⟨hq, n⟩
theorem nodup_eq {led : List (Addr × Obj)} (h : (led.map (·.1)).Nodup) {a : Addr} {o o' : Obj} (x : (a, o) ∈ led) (y : (a, o') ∈ led) : o = o' := by
  induction led with
  | nil => cases x
  | cons p r ih =>
    rw [List.map_cons, List.nodup_cons] at h
    rcases List.mem_cons.mp x with e | x
    · rcases List.mem_cons.mp y with e' | y
      · rw [← e] at e'; cases e'; rfl
      · exact absurd (List.mem_map.mpr ⟨_, y, by rw [← e]⟩) h.1
    · rcases List.mem_cons.mp y with e' | y
      · exact absurd (List.mem_map.mpr ⟨_, x, by rw [← e']⟩) h.1
      · exact ih h.2 x y
section
variable {g : Gb} {c : Cx} {σ : AH} {D : Nat → Nat} {led : List (Addr × Obj)} {s : Shared}
theorem AH.put_self (σ : AH) (a : Nat) (o : AO) : (σ.put a o) a = some o := by simp [AH.put]
theorem AH.put_ne (σ : AH) {a b : Nat} (o : AO) (h : b ≠ a) : (σ.put a o) b = σ b := by simp [AH.put, h]
theorem Led.entry (H : Led g σ D led) {a : Nat} {o : AO} (h : σ a = some o) : ∃ x, (a, x) ∈ led := by
  have := H.obj a o h
  cases o with
  | list => obtain ⟨_, _, m, _⟩ := this; exact ⟨_, m⟩
  | tup => obtain ⟨x, _, _, m, _⟩ := this; exact ⟨x, m⟩
  | inst => exact ⟨_, this.1⟩
  | dict => obtain ⟨x, m, _⟩ := this; exact ⟨x, m⟩
theorem Led.none_of (H : Led g σ D led) {a : Nat} (h : ∀ o, (a, o) ∉ led) : σ a = none := by
  cases q : σ a with
  | none => rfl
  | some o => obtain ⟨x, hx⟩ := H.entry q; exact absurd hx (h x)
theorem Led.notD (H : Led g σ D led) {a b C fs} (h : σ a = some (.inst C fs)) {o : AO} (k : σ b = some o) : D a ≠ b := by
  rintro rfl; rw [H.sep a C fs h] at k; cases k
theorem Led.set (H : Led g σ D led) {a : Nat} {o o' : AO} {x : Obj} (h : σ a = some o) (n2 : ∀ C fs, o' ≠ .inst C fs)
    (k : InLed g D (puto led a x) a o') : Led g (σ.put a o') D (puto led a x) := by
  have pi : ∀ b C fs, (σ.put a o') b = some (.inst C fs) → σ b = some (.inst C fs) ∧ b ≠ a := by
    intro b C fs e
    by_cases q : b = a
    · subst q; rw [AH.put_self] at e; cases e; exact absurd rfl (n2 _ _)
    · rw [AH.put_ne _ _ q] at e; exact ⟨e, q⟩
  refine ⟨by rw [puto_keys]; exact H.nd, fun b ob e => ?_, fun b d C fs C' fs' e1 e2 => H.inj b d C fs C' fs' (pi _ _ _ e1).1 (pi _ _ _ e2).1, fun b C fs e => ?_⟩
  · by_cases q : b = a
    · subst q; rw [AH.put_self] at e; cases e; exact k
    · rw [AH.put_ne _ _ q] at e
      have z := H.obj b ob e
      cases ob with
      | list => obtain ⟨vs, n, m, r⟩ := z; exact ⟨vs, n, mem_puto m q, r⟩
      | tup => obtain ⟨x, vs, n, m, hc, hd, r⟩ := z; exact ⟨x, vs, n, mem_puto m q, hc, hd, r⟩
      | inst C fs => obtain ⟨m, es, n, m2, hC, r⟩ := z; exact ⟨mem_puto m q, es, n, mem_puto m2 (H.notD e h), hC, r⟩
      | dict ds => obtain ⟨x, m, nn, r⟩ := z; exact ⟨x, mem_puto m q, nn, r⟩
  · have e' := (pi _ _ _ e).1
    rw [AH.put_ne _ _ (H.notD e' h)]
    exact H.sep b C fs e'
theorem Led.setF (H : Led g σ D led) {a C fs fs' es n} (h : σ a = some (.inst C fs)) (k : FR g.nm g.nf es fs') :
    Led g (σ.put a (.inst C fs')) D (puto led (D a) (dictOf es n)) := by
  have pi : ∀ b C₁ fs₁, (σ.put a (.inst C fs')) b = some (.inst C₁ fs₁) → ∃ fs₂, σ b = some (.inst C₁ fs₂) := by
    intro b C₁ fs₁ e
    by_cases q : b = a
    · subst q; rw [AH.put_self] at e; cases e; exact ⟨_, h⟩
    · rw [AH.put_ne _ _ q] at e; exact ⟨_, e⟩
  refine ⟨by rw [puto_keys]; exact H.nd, fun b ob e => ?_, fun b d C₁ fs₁ C₂ fs₂ e1 e2 => ?_, fun b C₁ fs₁ e => ?_⟩
  · by_cases q : b = a
    · subst q
      rw [AH.put_self] at e; cases e
      obtain ⟨m, es', n', m2, hc, _⟩ := H.obj b _ h
      exact ⟨mem_puto m fun z => H.notD h h z.symm, es, n, mem_puto_self m2, hc, k⟩
    · rw [AH.put_ne _ _ q] at e
      have z := H.obj b ob e
      have nb : b ≠ D a := fun z => H.notD h e z.symm
      cases ob with
      | list => obtain ⟨vs, n, m, r⟩ := z; exact ⟨vs, n, mem_puto m nb, r⟩
      | tup => obtain ⟨x, vs, n, m, hc, hd, r⟩ := z; exact ⟨x, vs, n, mem_puto m nb, hc, hd, r⟩
      | inst C₁ fs₁ => obtain ⟨m, es, n, m2, hC, r⟩ := z; exact ⟨mem_puto m nb, es, n, mem_puto m2 fun z => q (H.inj _ _ _ _ _ _ e h z), hC, r⟩
      | dict ds => obtain ⟨x, m, nn, r⟩ := z; exact ⟨x, mem_puto m nb, nn, r⟩
  · obtain ⟨_, e1⟩ := pi _ _ _ e1; obtain ⟨_, e2⟩ := pi _ _ _ e2; exact H.inj _ _ _ _ _ _ e1 e2
  · obtain ⟨_, e'⟩ := pi _ _ _ e
    rw [AH.put_ne _ _ (H.notD e' h)]
    exact H.sep _ _ _ e'
theorem InLed.more {a : Nat} {o : AO} {led' : List (Addr × Obj)} (h : InLed g D led a o) (hs : ∀ q ∈ led, q ∈ led') : InLed g D led' a o := by
  cases o with
  | list => obtain ⟨vs, n, m, r⟩ := h; exact ⟨vs, n, hs _ m, r⟩
  | tup => obtain ⟨x, vs, n, m, hc, hd, r⟩ := h; exact ⟨x, vs, n, hs _ m, hc, hd, r⟩
  | inst C fs => obtain ⟨m, es, n, m2, hC, r⟩ := h; exact ⟨hs _ m, es, n, hs _ m2, hC, r⟩
  | dict ds => obtain ⟨x, m, nn, r⟩ := h; exact ⟨x, hs _ m, nn, r⟩
theorem Led.more (H : Led g σ D led) {a : Nat} {x : Obj} (h : ∀ o, (a, o) ∉ led) : Led g σ D ((a, x) :: led) :=
  ⟨by rw [List.map_cons, List.nodup_cons]; exact ⟨fun q => by obtain ⟨p, hp, e⟩ := List.mem_map.mp q; obtain ⟨b, o⟩ := p; cases e; exact h o hp, H.nd⟩,
    fun b o e => (H.obj b o e).more fun q hq => .tail _ hq, H.inj, H.sep⟩
theorem Led.claim (H : Led g σ D led) {a : Nat} {o : AO} (n : ∀ C fs, o ≠ .inst C fs) (ha : ¬ Own σ D a) (k : InLed g D led a o) : Led g (σ.put a o) D led := by
  have pi : ∀ b C fs, (σ.put a o) b = some (.inst C fs) → σ b = some (.inst C fs) := by
    intro b C fs e
    by_cases q : b = a
    · subst q; rw [AH.put_self] at e; cases e; exact absurd rfl (n _ _)
    · rw [AH.put_ne _ _ q] at e; exact e
  refine ⟨H.nd, fun b ob e => ?_, fun b d C fs C' fs' e1 e2 => H.inj b d C fs C' fs' (pi _ _ _ e1) (pi _ _ _ e2), fun b C fs e => ?_⟩
  · by_cases q : b = a
    · subst q; rw [AH.put_self] at e; cases e; exact k
    · rw [AH.put_ne _ _ q] at e; exact H.obj b ob e
  · have e' := pi _ _ _ e
    rw [AH.put_ne _ _ fun z => ha (.inr ⟨b, C, fs, e', z⟩)]
    exact H.sep b C fs e'
theorem Own.put {a b : Nat} {o : AO} (n : ∀ C fs, o ≠ .inst C fs) (h : Own (σ.put a o) D b) : b = a ∨ Own σ D b := by
  rcases h with h | ⟨d, C, fs, e, rfl⟩
  · by_cases q : b = a
    · exact .inl q
    · rw [AH.put_ne _ _ q] at h; exact .inr (.inl h)
  · by_cases q : d = a
    · subst q; rw [AH.put_self] at e; cases e; exact absurd rfl (n _ _)
    · rw [AH.put_ne _ _ q] at e; exact .inr (.inr ⟨d, C, fs, e, rfl⟩)
theorem Own.putI {a b C : Nat} {fs fs'} (h₀ : σ a = some (.inst C fs)) (h : Own (σ.put a (.inst C fs')) D b) : Own σ D b := by
  rcases h with h | ⟨d, C', fs₁, e, rfl⟩
  · by_cases q : b = a
    · subst q; exact .inl (by rw [h₀]; simp)
    · rw [AH.put_ne _ _ q] at h; exact .inl h
  · by_cases q : d = a
    · subst q; exact .inr ⟨d, C, fs, h₀, rfl⟩
    · rw [AH.put_ne _ _ q] at e; exact .inr ⟨d, C', fs₁, e, rfl⟩
theorem none_of_ledger {o : Obj} (A : At c led s) {a : Addr} (h : s.heap.get? a = none) : (a, o) ∉ led := fun q => by have := (A.news _ q).1; rw [h] at this; cases this
theorem At.keeps (A : At c led s) {h' : Heap} {tk : Nat} (k : ∀ b o, s.heap.get? b = some o → h'.get? b = some o) : At c led { s with heap := h', toks := tk } :=
  ⟨A.fr.kept k, fun q hq => ⟨k _ _ (A.news q hq).1, (A.news q hq).2⟩, A.gens, A.drawn, A.os⟩
theorem At.cons (A : At c led s) {a : Addr} {x : Obj} (h : s.heap.get? a = some x) (h₀ : c.base.get? a = none) (hL : a ≠ c.L) : At c ((a, x) :: led) s :=
  ⟨A.fr, fun q hq => by rcases List.mem_cons.mp hq with rfl | hq; exact ⟨h, hL, h₀⟩; exact A.news q hq, A.gens, A.drawn, A.os⟩
theorem At.fresh (A : At c led s) {a : Addr} (h : s.heap.get? a = none) : c.base.get? a = none ∧ a ≠ c.L := by
  refine ⟨?_, fun q => ?_⟩
  · cases z : c.base.get? a with
    | none => rfl
    | some o => have := A.fr.keep a o z; rw [h] at this; cases this
  · obtain ⟨o, _, _, ho, _⟩ := A.fr.ns
    rw [← q, h] at ho; cases ho
theorem At.set (A : At c led s) {a : Addr} {x x' : Obj} (m : (a, x) ∈ led) {h' : Heap} {tk : Nat} (k : Heap.ExtBut a s.heap h') (e : h'.get? a = some x') : At c (puto led a x') { s with heap := h', toks := tk } := by
  have z := A.news _ m
  have hb : ∀ b o, c.base.get? b = some o → b ≠ a := fun b o e q => by rw [q, z.2.2] at e; cases e
  refine ⟨⟨?_, fun b o e => k b o (hb b o e) (A.fr.keep b o e), A.fr.above⟩, fun q hq => ?_, A.gens, A.drawn, A.os⟩
  · exact A.fr.ns.extBut k (Ne.symm z.2.1)
  · rcases of_puto hq with rfl | ⟨hq, n⟩
    · exact ⟨e, z.2⟩
    · exact ⟨k _ _ n (A.news q hq).1, (A.news q hq).2⟩
end
end
section
set_option tactic.hygienic false
open PySem PySem.W PySem.Calls PyProof.Rows
inductive HasL (h : Heap) (a : Nat) (xs : List AV) : Prop | mk (vs : List Value) (n : Nat) (i : IsL h a (List.toArray vs) n) (r : VRs vs xs)
inductive HasD (g : Gb) (h : Heap) (a : Nat) (ds : List (Int × AV)) : Prop | mk (kvs : List (Int × Value)) (d : h.DictOf (intKind g.prog g.w) a kvs) (r : KR kvs ds) (n : (a == sysModules) = false)
inductive HasI (g : Gb) (h : Heap) (a C : Nat) (fs : List (Nat × AV)) : Prop | mk (dx : Nat) (es : List DictEntry) (n : Nat) (i : InstAt h a (instObj C dx) C (some (dictOf es n))) (hC : C ∈ g.cs) (r : FR g.nm g.nf es fs)
inductive NewL (g : Gb) (c : Cx) (σ : AH) (s : Shared) : Prop | mk (led : List (Addr × Obj)) (F : Fr c.base c.L s.heap c.m) (N : News c.base c.L s.heap led) (k : ∀ (a n : Nat) (vs : List Value) (ys : List AV) h' tk, Fr c.base c.L h' c.m → News c.base c.L h' ((a, listOf (List.toArray vs) n) :: led) →
    s.heap.get? a = none → VRs vs ys → σ a = none ∧ Inv g c (σ.put a (.list ys)) { s with heap := h', toks := tk })
section
variable {g : Gb} {c : Cx} {σ : AH} {s : Shared}
theorem Inv.keeps (I : Inv g c σ s) {h' : Heap} {tk : Nat} (k : ∀ b o, s.heap.get? b = some o → h'.get? b = some o) : Inv g c σ { s with heap := h', toks := tk } :=
  let ⟨D, led, H, A, K⟩ := I; ⟨D, led, H, A.keeps k, K⟩
theorem Inv.toks (I : Inv g c σ s) (tk : Nat) : Inv g c σ { s with toks := tk } := I.keeps fun Ω Ω e => e
theorem Inv.fr (I : Inv g c σ s) : Fr c.base c.L s.heap c.m := let ⟨_, _, _, A, _⟩ := I; A.fr
theorem Inv.list (I : Inv g c σ s) {a : Nat} {xs : List AV} (h : σ a = some (.list xs)) : HasL s.heap a xs := by
  obtain ⟨D, led, H, A, _⟩ := I
  obtain ⟨vs, n, m, r⟩ := H.obj a _ h
  exact ⟨vs, n, (A.news _ m).1, r⟩
theorem Inv.tup (I : Inv g c σ s) {a : Nat} {xs : List AV} (h : σ a = some (.tup xs)) : ∃ vs, IsTup s.heap a (List.toArray vs) ∧ VRs vs xs := by
  obtain ⟨D, led, H, A, _⟩ := I
  obtain ⟨o, vs, n, m, hc, hd, r⟩ := H.obj a _ h
  exact ⟨vs, ⟨o, (A.news _ m).1, hc, n, hd⟩, r⟩
theorem Inv.dict (I : Inv g c σ s) {a : Nat} {ds : List (Int × AV)} (h : σ a = some (.dict ds)) : HasD g s.heap a ds := by
  obtain ⟨D, led, H, A, _⟩ := I
  obtain ⟨o, m, n, k⟩ := H.obj a _ h
  obtain ⟨kvs, k1, k2⟩ := k _ (A.news _ m).1
  exact ⟨kvs, k1, k2, n⟩
theorem Inv.inst (I : Inv g c σ s) {a C : Nat} {fs : List (Nat × AV)} (h : σ a = some (.inst C fs)) :
    HasI g s.heap a C fs := by
  obtain ⟨D, led, H, A, _⟩ := I
  obtain ⟨m, es, n, m2, hC, r⟩ := H.obj a _ h
  exact ⟨D a, es, n, ⟨(A.news _ m).1, rfl, rfl, (A.news _ m2).1⟩, hC, r⟩
theorem Inv.set (I : Inv g c σ s) {a : Nat} {o o' : AO} (h : σ a = some o) (n2 : ∀ C fs, o' ≠ .inst C fs) {h' : Heap} {tk : Nat} {x : Obj}
    (k : Heap.ExtBut a s.heap h') (e : h'.get? a = some x) (r : ∀ D led, (a, x) ∈ led → InLed g D led a o') : Inv g c (σ.put a o') { s with heap := h', toks := tk } := by
  obtain ⟨D, led, H, A, K⟩ := I
  obtain ⟨y, m⟩ := H.entry h
  refine ⟨D, _, H.set h n2 (r _ _ (mem_puto_self m)), A.set m k e, fun q hq => ?_⟩
  obtain ⟨⟨o, z, kr⟩, no⟩ := K q hq
  have ne : q.1 ≠ a := fun e => no (.inl (by rw [e, h]; simp))
  exact ⟨⟨o, mem_puto z ne, kr⟩, fun ow => (Own.put n2 ow).elim ne no⟩
theorem Inv.setList (I : Inv g c σ s) {a : Nat} {xs ys : List AV} {vs : List Value} (h : σ a = some (.list xs)) {h' : Heap} {tk : Nat}
    {n : Nat} (k : Heap.ExtBut a s.heap h') (e : IsL h' a (List.toArray vs) n) (r : VRs vs ys) : Inv g c (σ.put a (.list ys)) { s with heap := h', toks := tk } :=
  I.set h (fun Ω Ω z => by cases z) k e fun D led m => ⟨vs, n, m, r⟩
theorem Inv.updList (I : Inv g c σ s) {a : Nat} {xs ys : List AV} {vs us : List Value} {n tk : Nat} {f : Array Value → Array Value} (h : σ a = some (.list xs)) (e : IsL s.heap a (List.toArray vs) n)
    (q : f (List.toArray vs) = List.toArray us) (r : VRs us ys) : Inv g c (σ.put a (.list ys)) { s with heap := s.heap.update a (Obj.mapSeq f), toks := tk } :=
  I.setList h (Heap.SameBut.update ..).extBut (q ▸ e.update f) r
theorem Inv.new (I : Inv g c σ s) {a : Nat} {o : AO} {x : Obj} {h' : Heap} {tk : Nat} (n2 : ∀ C fs, o ≠ .inst C fs) (f : s.heap.get? a = none)
    (k : ∀ b o, s.heap.get? b = some o → h'.get? b = some o) (e : h'.get? a = some x) (r : ∀ D led, (a, x) ∈ led → InLed g D led a o) :
    σ a = none ∧ Inv g c (σ.put a o) { s with heap := h', toks := tk } := by
  obtain ⟨D, led, H, A, K⟩ := I
  have no : ∀ o, (a, o) ∉ led := fun o => none_of_ledger A f
  have hn : σ a = none := H.none_of no
  have ow : ¬ Own σ D a := by
    rintro (z | ⟨b, C, fs, e, q⟩)
    · exact z hn
    · obtain ⟨_, es, n, m2, _⟩ := H.obj b _ e
      exact no _ (q ▸ m2)
  obtain ⟨h0, hL⟩ := A.fresh f
  refine ⟨hn, D, (a, x) :: led, (H.more no).claim n2 ow (r _ _ (.head _)), (A.keeps k).cons e h0 hL, fun q hq => ?_⟩
  obtain ⟨⟨o, z, kr⟩, nq⟩ := K q hq
  refine ⟨⟨o, .tail _ z, kr⟩, fun w => (Own.put n2 w).elim (fun e => no o (e ▸ z)) nq⟩
theorem Inv.newList (I : Inv g c σ s) {a : Nat} {ys : List AV} {vs : List Value} {h' : Heap} {tk : Nat} (f : s.heap.get? a = none)
    {n : Nat} (k : ∀ b o, s.heap.get? b = some o → h'.get? b = some o) (e : IsL h' a (List.toArray vs) n) (r : VRs vs ys) :
    σ a = none ∧ Inv g c (σ.put a (.list ys)) { s with heap := h', toks := tk } :=
  I.new (fun Ω Ω z => by cases z) f k e fun D led m => ⟨vs, n, m, r⟩
theorem get_size (h : Heap) : h.get? h.objs.size = none := by
  cases q : h.get? h.objs.size with
  | none => rfl
  | some o => exact absurd (Heap.lt_size q) (Nat.lt_irrefl _)
theorem Inv.newL (I : Inv g c σ s) : NewL g c σ s := by
  obtain ⟨D, led, H, A, K⟩ := I
  refine ⟨led, A.fr, A.news, fun a n vs ys h' tk F' N' f r => ?_⟩
  have no : ∀ o, (a, o) ∉ led := fun o => none_of_ledger A f
  have hn : σ a = none := H.none_of no
  have ow : ¬ Own σ D a := by
    rintro (z | ⟨b, C, fs, e, q⟩)
    · exact z hn
    · obtain ⟨_, es, n, m2, _⟩ := H.obj b _ e
      exact no _ (q ▸ m2)
  refine ⟨hn, D, (a, listOf vs.toArray n) :: led, (H.more no).claim (fun Ω Ω z => by cases z) ow ⟨vs, n, .head _, r⟩, ⟨F', N', A.gens, A.drawn, A.os⟩, fun q hq => ?_⟩
  obtain ⟨⟨o, z, kr⟩, nq⟩ := K q hq
  exact ⟨⟨o, .tail _ z, kr⟩, fun w => (Own.put (fun Ω Ω z => by cases z) w).elim (fun e => no o (e ▸ z)) nq⟩
theorem Inv.newTup (I : Inv g c σ s) {a : Nat} {ys : List AV} {vs : List Value} {h' : Heap} {tk : Nat} (f : s.heap.get? a = none)
    (k : ∀ b o, s.heap.get? b = some o → h'.get? b = some o) (e : IsTup h' a (List.toArray vs)) (r : VRs vs ys) :
    σ a = none ∧ Inv g c (σ.put a (.tup ys)) { s with heap := h', toks := tk } := by
  obtain ⟨o, ho, hc, n, hd⟩ := e
  exact I.new (fun Ω Ω z => by cases z) f k ho fun D led m => ⟨o, vs, n, m, hc, hd, r⟩
theorem Inv.setDict (I : Inv g c σ s) {a : Nat} {ds ds' : List (Int × AV)} {kvs : List (Int × Value)} (h : σ a = some (.dict ds)) {h' : Heap} {tk : Nat}
    (k : Heap.ExtBut a s.heap h') (e : h'.DictOf (intKind g.prog g.w) a kvs) (r : KR kvs ds') : Inv g c (σ.put a (.dict ds')) { s with heap := h', toks := tk } := by
  obtain ⟨_, _, _, n⟩ := I.dict h
  obtain ⟨o, es, ep, ho, re⟩ := id e
  exact I.set h (fun Ω Ω z => by cases z) k ho fun D led m => ⟨o, m, n, fun hh hg => ⟨kvs, ⟨o, es, ep, hg, re⟩, r⟩⟩
theorem Inv.newDict (I : Inv g c σ s) {a : Nat} {h' : Heap} {tk : Nat} (f : s.heap.get? a = none) (n : (a == sysModules) = false)
    (k : ∀ b o, s.heap.get? b = some o → h'.get? b = some o) (e : h'.DictOf (intKind g.prog g.w) a []) :
    σ a = none ∧ Inv g c (σ.put a (.dict [])) { s with heap := h', toks := tk } := by
  obtain ⟨o, es, ep, ho, re⟩ := id e
  exact I.new (fun Ω Ω z => by cases z) f k ho fun D led m => ⟨o, m, n, fun hh hg => ⟨[], ⟨o, es, ep, hg, re⟩, .nil⟩⟩
theorem Inv.newInst (I : Inv g c σ s) {C : Nat} (hC : C ∈ g.cs) : ∃ led, Fr c.base c.L s.heap c.m ∧ News c.base c.L s.heap led ∧ ∀ x d h' tk, Fr c.base c.L h' c.m → News c.base c.L h' ((x, instObj C d) :: (d, emptyDict) :: led) →
    (∀ p ∈ led, p.1 < d) → d < x → σ x = none ∧ Inv g c (σ.put x (.inst C [])) { s with heap := h', toks := tk } := by
  obtain ⟨D, led, H, A, K⟩ := I
  refine ⟨led, A.fr, A.news, fun x d h' tk F' N' lt lt2 => ?_⟩
  have ne : x ≠ d := Nat.ne_of_gt lt2
  have nd : ∀ o, (d, o) ∉ led := fun o q => Nat.lt_irrefl _ (lt _ q)
  have nx : ∀ o, (x, o) ∉ led := fun o q => Nat.lt_irrefl _ (Nat.lt_trans (lt _ q) lt2)
  have hx : σ x = none := H.none_of nx
  have hd : σ d = none := H.none_of nd
  have ox : ∀ z, (∀ o, (z, o) ∉ led) → ¬ Own σ D z := by
    rintro z nz (q | ⟨b, C, fs, e, q⟩)
    · exact q (H.none_of nz)
    · obtain ⟨_, es, n, m2, _⟩ := H.obj b _ e
      exact nz _ (q ▸ m2)
  let D' : Nat → Nat := fun b => if b = x then d else D b
  have Dx : D' x = d := by simp [D']
  have Dn : ∀ b, b ≠ x → D' b = D b := fun b h => by simp [D', h]
  have A' : At c ((x, instObj C d) :: (d, emptyDict) :: led) { s with heap := h', toks := tk } := ⟨F', N', A.gens, A.drawn, A.os⟩
  have own : ∀ {b}, Own (σ.put x (.inst C [])) D' b → b = x ∨ b = d ∨ Own σ D b := by
    rintro b (q | ⟨y, C', fs, q, r⟩)
    · by_cases z : b = x
      · exact .inl z
      · rw [AH.put_ne _ _ z] at q; exact .inr (.inr (.inl q))
    · by_cases z : y = x
      · rw [z, Dx] at r; exact .inr (.inl r.symm)
      · rw [AH.put_ne _ _ z] at q; rw [Dn _ z] at r; exact .inr (.inr (.inr ⟨y, C', fs, q, r⟩))
  have inst : ∀ b C' fs, (σ.put x (.inst C [])) b = some (.inst C' fs) → b = x ∨ (b ≠ x ∧ σ b = some (.inst C' fs) ∧ D b ≠ d) := by
    intro b C' fs q
    by_cases z : b = x
    · exact .inl z
    · rw [AH.put_ne _ _ z] at q
      refine .inr ⟨z, q, fun r => ?_⟩
      obtain ⟨_, es, n, m2, _⟩ := H.obj b _ q
      exact nd _ (r ▸ m2)
  refine ⟨hx, D', _, ⟨?_, fun b ob q => ?_, fun a b C₁ fs₁ C₂ fs₂ q1 q2 r => ?_, fun b C' fs q => ?_⟩, A', fun q hq => ?_⟩
  · simp only [List.map_cons, List.nodup_cons, List.mem_cons, not_or]
    refine ⟨⟨ne, fun q => ?_⟩, fun q => ?_, H.nd⟩ <;> (obtain ⟨p, hp, z⟩ := List.mem_map.mp q; obtain ⟨p1, p2⟩ := p; cases z)
    · exact nx _ hp
    · exact nd _ hp
  · by_cases z : b = x
    · subst z
      rw [AH.put_self] at q; cases q
      exact ⟨by rw [Dx]; exact .head _, [], 0, by rw [Dx]; exact .tail _ (.head _), hC, .nil⟩
    · rw [AH.put_ne _ _ z] at q
      have w := (H.obj b ob q).more (led' := (x, instObj C d) :: (d, emptyDict) :: led) fun Ω h => .tail _ (.tail _ h)
      cases ob with
      | inst C' fs => obtain ⟨m, es, n, m2, hC, r⟩ := w; exact ⟨by rw [Dn _ z]; exact m, es, n, by rw [Dn _ z]; exact m2, hC, r⟩
      | list | tup | dict => exact w
  · rcases inst _ _ _ q1 with rfl | ⟨n1, q1, r1⟩ <;> rcases inst _ _ _ q2 with rfl | ⟨n2, q2, r2⟩
    · rfl
    · rw [Dx, Dn _ n2] at r; exact absurd r.symm r2
    · rw [Dx, Dn _ n1] at r; exact absurd r r1
    · rw [Dn _ n1, Dn _ n2] at r; exact H.inj _ _ _ _ _ _ q1 q2 r
  · rcases inst _ _ _ q with rfl | ⟨n1, q1, r1⟩
    · rw [Dx, AH.put_ne _ _ (Ne.symm ne)]; exact hd
    · rw [Dn _ n1]
      have : D b ≠ x := fun z => by
        obtain ⟨_, es, n, m2, _⟩ := H.obj b _ q1
        exact nx _ (z ▸ m2)
      rw [AH.put_ne _ _ this]
      exact H.sep _ _ _ q1
  · obtain ⟨⟨o, z, kr⟩, no⟩ := K q hq
    refine ⟨⟨o, .tail _ (.tail _ z), kr⟩, fun w => ?_⟩
    rcases own w with e | e | e
    · exact nx o (e ▸ z)
    · exact nd o (e ▸ z)
    · exact no e
theorem puto_split {pre post : List (Addr × Obj)} {d : Addr} {o o' : Obj} (h1 : ∀ p ∈ pre, p.1 ≠ d) (h2 : ∀ p ∈ post, p.1 ≠ d) : puto (pre ++ (d, o) :: post) d o' = pre ++ (d, o') :: post := by
  have e : ∀ l : List (Addr × Obj), (∀ p ∈ l, p.1 ≠ d) → puto l d o' = l := fun l h => by
    unfold puto
    conv => rhs; rw [← List.map_id l]
    exact List.map_congr_left fun p hp => by simp [h p hp]
  have a := e pre h1
  have b := e post h2
  unfold puto at a b ⊢
  rw [List.map_append, List.map_cons, a, b, if_pos rfl]
theorem Inv.setF (I : Inv g c σ s) {a C : Nat} {fs : List (Nat × AV)} (h : σ a = some (.inst C fs)) :
    ∃ dx es n pre post, InstAt s.heap a (instObj C dx) C (some (dictOf es n)) ∧ C ∈ g.cs ∧ FR g.nm g.nf es fs ∧ Fr c.base c.L s.heap c.m ∧ (∀ p ∈ pre, p.1 ≠ dx) ∧ (∀ p ∈ post, p.1 ≠ dx) ∧ News c.base c.L s.heap (pre ++ (dx, dictOf es n) :: post) ∧
      ∀ h' tk es' n' fs', Fr c.base c.L h' c.m → News c.base c.L h' (pre ++ (dx, dictOf es' n') :: post) → FR g.nm g.nf es' fs' → Inv g c (σ.put a (.inst C fs')) { s with heap := h', toks := tk } := by
  obtain ⟨D, led, H, A, K⟩ := I
  obtain ⟨m, es, n, m2, hC, q⟩ := H.obj a _ h
  obtain ⟨pre, post, hs⟩ := List.append_of_mem m2
  have hnd := H.nd
  rw [hs, List.map_append, List.map_cons, List.nodup_append] at hnd
  obtain ⟨_, h2, h3⟩ := hnd
  rw [List.nodup_cons] at h2
  have p1 : ∀ p ∈ pre, p.1 ≠ D a := fun p hp z => h3 _ (List.mem_map_of_mem hp) _ (.head _) z
  have p2 : ∀ p ∈ post, p.1 ≠ D a := fun p hp z => h2.1 (List.mem_map.mpr ⟨p, hp, z⟩)
  refine ⟨D a, es, n, pre, post, ⟨(A.news _ m).1, rfl, rfl, (A.news _ m2).1⟩, hC, q, A.fr, p1, p2, hs ▸ A.news, fun h' tk es' n' fs' F' N' r => ?_⟩
  refine ⟨D, _, H.setF h r, ⟨F', by rw [hs, puto_split p1 p2]; exact N', A.gens, A.drawn, A.os⟩, fun q hq => ?_⟩
  obtain ⟨⟨o, z, kr⟩, no⟩ := K q hq
  exact ⟨⟨o, mem_puto z fun w => no (.inr ⟨a, C, fs, h, w.symm⟩), kr⟩, fun w => no (Own.putI h w)⟩
end
end
section
set_option tactic.hygienic false
open PySem PySem.W PySem.Calls PyProof.Rows
structure Stat (g : Gb) (base : Heap) : Prop where
  X : g.K.In base
  T : TopRead g.p g.loose g.mg g.mb base
  nN : g.nf ≤ g.nN
  injN : ∀ i j, i < g.nN → j < g.nN → g.nm i = g.nm j → i = j
  fld : ∀ C ∈ g.cs, ∀ f, f < g.nf → findIn g.K (.ref C) (g.nm f) = some none
  pg : ∀ C ∈ g.cs, ∀ x, plainGet g.K C x = true
  hd : ∀ C ∈ g.cs, hasDictIn g.K C = true
  sa : ∀ C ∈ g.cs, findIn g.K (.ref C) "__setattr__" = some (some (.builtin "object.__setattr__"))
  po : ∀ C ∈ g.cs, plainOver g.K C = true
  cc : ∀ C ∈ g.cs, findIn g.K (.ref C) "__class__" = some (some (.builtin "object.__class__"))
  cn : specialIn g.K (.builtin "object.__class__") "__get__" = some (some (.builtin "getset_descriptor.__get__"))
  ct : takesIn g.K (.builtin "object.__class__") = some true
  cm : ∀ C ∈ g.cs, mroIn g.K C (.type "object") = some true
  ki : ∀ D ∈ g.cs, ∀ C ∈ g.ics, kitOne g.K (.ref D) (.ref C) = some (D == C)
  kn : ∀ C ∈ g.ics, kitOne g.K (.type "NoneType") (.ref C) = some false
  kz : ∀ C ∈ g.ics, kitOne g.K (.type "int") (.ref C) = some false
  kt : ∀ C ∈ g.ics, kitOne g.K (.type "str") (.ref C) = some false
  kb : ∀ C ∈ g.ics, kitOne g.K (.type "bool") (.ref C) = some false
theorem Stat.inj {g : Gb} {base : Heap} (S : Stat g base) (i j : Nat) (hi : i < g.nf) (hj : j < g.nf) (e : g.nm i = g.nm j) : i = j :=
  S.injN i j (Nat.lt_of_lt_of_le hi S.nN) (Nat.lt_of_lt_of_le hj S.nN) e
structure Rm (A : Around) (n : Nat) : Prop where
  dp : A.depth + 2 * n ≤ 900
  un : A.units + 8 * n ≤ 9000
inductive PV (g : Gb) (c : Cx) (Q : AV → AH → Prop) (v : Value) (s : Shared) : Prop | mk (x : AV) (σ : AH) (r : VR v x) (I : Inv g c σ s) (q : Q x σ)
theorem FR.look {nm : Nm} {nf : Nat} (inj : ∀ i j, i < nf → j < nf → nm i = nm j → i = j) {es fs} (h : FR nm nf es fs) {f : Nat} (hf : f < nf) {x : AV} (e : getF fs f = some x) : ∃ v, getL (nm f) es = some (some v) ∧ VR v x := by
  induction h with
  | nil => cases e
  | @cons hh t v f' x' es fs l r q ih =>
    simp only [getF] at e
    unfold getL at ih ⊢
    by_cases z : f' = f
    · subst z
      simp at e; subst e
      exact ⟨v, by simp [List.find?, Value.isStr], r⟩
    · simp [z] at e
      have ne : ¬ nm f' = nm f := fun q => z (inj _ _ l hf q)
      obtain ⟨u, hu, hr⟩ := ih e
      refine ⟨u, ?_, hr⟩
      have e1 : (⟨hh, .str (nm f') t, v⟩ : DictEntry).key.isStr (nm f) = false := by simpa [Value.isStr] using ne
      rw [List.find?_cons, e1, List.any_cons]
      exact hu
theorem VR.handed {v x} (h : VR v x) : handedIn v = true := by cases h <;> rfl
section
variable {g : Gb} {c : Cx} {σ : AH} {s : Shared} {A : Around} {E : Value → Shared → Prop} {Q : AV → AH → Prop} {v u : Value} {x y : AV}
theorem op_attr (S : Stat g c.base) (I : Inv g c σ s) (hv : VR v x) {f : Nat} (hf : f < g.nf) (h : sem1 (.attr f) x Q σ) {ex : Bool} :
    wpAny (model g.prog g.w) A (getAttr v (g.nm f) ex) (PV g c Q) E s := by
  obtain ⟨a, C, fs, y, rfl, ha, hy, hq⟩ := h
  cases hv
  obtain ⟨dx, es, n, IA, hC, r⟩ := I.inst ha
  obtain ⟨w, hw, hr⟩ := r.look S.inj hf hy
  exact get_own I.fr S.X IA (S.pg C hC _) (S.hd C hC) (S.fld C hC f hf) rfl hw hr.handed ⟨y, σ, hr, I.toks _, hq⟩
theorem op_neg (I : Inv g c σ s) (hv : VR v x) (h : sem1 .neg x Q σ) : wpAny (model g.prog g.w) A (unaryOp .USub v) (PV g c Q) E s := by
  obtain ⟨i, rfl, hq⟩ := h
  cases hv
  exact P.neg_int ⟨_, σ, .int _ _, I.toks _, hq⟩
theorem VR.isNone {v x} (h : VR v x) : (v == Value.none) = match x with | .none => true | _ => false := by cases h <;> rfl
theorem op_isN (I : Inv g c σ s) (hv : VR v x) (h : sem1 .isN x Q σ) : wpAny (model g.prog g.w) A (compareOp .Is v .none) (PV g c Q) E s := by
  refine PyProof.Rows.is_none_gen ⟨_, σ, .bool _, I, ?_⟩
  rw [hv.isNone]
  cases x <;> first | exact h.1 rfl | exact h.2 (fun z => by cases z)
theorem op_isNN (I : Inv g c σ s) (hv : VR v x) (h : sem1 .isNN x Q σ) : wpAny (model g.prog g.w) A (compareOp .IsNot v .none) (PV g c Q) E s := by
  refine PyProof.Rows.isnot_none_gen ⟨_, σ, .bool _, I, ?_⟩
  rw [hv.isNone]
  cases x <;> first | exact h.1 rfl | exact h.2 (fun z => by cases z)
noncomputable def binOf : AOp → Operator
  | .add => .Add
  | .sub => .Sub
  | .mul => .Mult
  | .div => .FloorDiv
  | .mod => .Mod
  | .pow => .Pow
noncomputable def cmpOf : IOp → CmpOp
  | .lt => .Lt
  | .le => .LtE
  | .gt => .Gt
  | .ge => .GtE
  | .eq => .Eq
  | .ne => .NotEq
theorem op_cmp (I : Inv g c σ s) (hv : VR v x) (hu : VR u y) {op : IOp} (h : sem2 (.cmp op) x y Q σ) : wpAny (model g.prog g.w) A (compareOp (cmpOf op) v u) (PV g c Q) E s := by
  obtain ⟨i, j, rfl, rfl, hq⟩ := h
  cases hv; cases hu
  cases op
  · exact P.lt_int ⟨_, σ, .bool _, I, hq⟩
  · exact P.le_int ⟨_, σ, .bool _, I, hq⟩
  · exact P.gt_int ⟨_, σ, .bool _, I, hq⟩
  · exact P.ge_int ⟨_, σ, .bool _, I, hq⟩
  · refine P.eq_int ⟨_, σ, .bool _, I, ?_⟩
    have : (i == j) = decide (i = j) := by rfl
    rw [this]; exact hq
  · refine P.ne_int ⟨_, σ, .bool _, I, ?_⟩
    have : (i != j) = !decide (i = j) := by rfl
    rw [this]; exact hq
theorem op_ar (I : Inv g c σ s) (hv : VR v x) (hu : VR u y) {op : AOp} (h : sem2 (.ar op) x y Q σ) : wpAny (model g.prog g.w) A (binaryOp (binOf op) v u) (PV g c Q) E s := by
  obtain ⟨i, j, rfl, rfl, ok, hq⟩ := h
  cases hv; cases hu
  cases op
  · exact P.add_int ⟨_, σ, .int _ _, I.toks _, hq⟩
  · exact P.sub_int ⟨_, σ, .int _ _, I.toks _, hq⟩
  · refine P.mul_int ⟨_, σ, .int _ _, I.toks _, hq⟩ (.of_right (intBits_le ?_))
    have := ok.2; exact Nat.lt_of_le_of_lt this (by decide)
  · exact PyProof.Rows.floordiv_int ok.1 ⟨_, σ, .int _ _, I.toks _, hq⟩ (.inl (PyProof.noPylong_small ok.2))
  · exact PyProof.Rows.mod_int' ok ⟨_, σ, .int _ _, I.toks _, hq⟩
  · refine PyProof.Rows.pow_int_small ok.1 ?_ ?_ ⟨_, σ, .int _ _, I.toks _, hq⟩
    · exact Int.le_trans ok.2.1 (by decide)
    · exact Nat.lt_of_le_of_lt ok.2.2 (by decide)
theorem op_iar (I : Inv g c σ s) (hv : VR v x) (hu : VR u y) {op : AOp} (op2 : op = .add ∨ op = .sub) (h : sem2 (.ar op) x y Q σ) : wpAny (model g.prog g.w) A (inplaceOp (binOf op) v u) (PV g c Q) E s := by
  obtain ⟨i, j, rfl, rfl, ok, hq⟩ := h
  cases hv; cases hu
  rcases op2 with rfl | rfl
  · exact P.iadd_int ⟨_, σ, .int _ _, I.toks _, hq⟩
  · exact P.isub_int ⟨_, σ, .int _ _, I.toks _, hq⟩
theorem op_scat (I : Inv g c σ s) (hv : VR v x) (hu : VR u y) (h : sem2 .scat x y Q σ) : wpAny (model g.prog g.w) A (binaryOp .Add v u) (PV g c Q) E s := by
  obtain ⟨i, j, rfl, rfl, ok, hq⟩ := h
  cases hv; cases hu
  exact PyProof.Rows.add_str (fun t' tk => ⟨_, σ, .str _ _, I.toks _, hq⟩) (Nat.le_trans ok (by decide))
end
end
section
set_option tactic.hygienic false
open PySem PySem.W PySem.Calls PyProof.Rows
section
variable {g : Gb} {c : Cx} {σ : AH} {s : Shared} {A : Around} {E : Value → Shared → Prop} {Q : AV → AH → Prop} {v u : Value} {x y : AV}
theorem size_foldl_replicate (a : Array Nat) : ∀ n (b : Array Nat), ((List.replicate n a).foldl (· ++ ·) b).size = b.size + n * a.size
  | 0, b => by simp
  | n + 1, b => by
    show ((List.replicate n a).foldl (· ++ ·) (b ++ a)).size = _
    rw [size_foldl_replicate a n (b ++ a), Array.size_append, Nat.succ_mul]; lia
theorem all_foldl_replicate {p : Nat → Bool} (a : Array Nat) (ha : a.all p = true) : ∀ n (b : Array Nat), b.all p = true → ((List.replicate n a).foldl (· ++ ·) b).all p = true
  | 0, b, h => h
  | n + 1, b, h => all_foldl_replicate a ha n (b ++ a) (by rw [Array.all_append, h, ha]; rfl)
theorem op_smul (I : Inv g c σ s) (hv : VR v x) (hu : VR u y) (h : sem2 .smul x y Q σ) : wpAny (model g.prog g.w) A (binaryOp .Mult v u) (PV g c Q) E s := by
  obtain ⟨z, k, rfl, rfl, h0, h1, hz, ho, hq⟩ := h
  cases hv; cases hu
  have hk : z.length * k.toNat ≤ 100 * 90 := Nat.mul_le_mul hz (by lia)
  refine P.mul_str ?_ (fun Ω Ω => ?_) (fun Ω Ω => ?_) ?_
  · simp; lia
  · have : (100 : Int) ≤ (2 ^ 63 - 1) / k := by
      rcases Int.lt_or_eq_of_le h0 with q | q
      · exact (Int.le_ediv_iff_mul_le q).mpr (by lia)
      · lia
    lia
  · refine decide_eq_false ?_; unfold sizeLine; lia
  · split
    · exact ⟨by decide, _, σ, .str _ _, I.toks _, hq _ (by decide) (by decide +kernel)⟩
    · split
      · exact ⟨_, σ, .str _ _, I, hq _ (by lia) ho⟩
      · have : (⟨(List.replicate k.toNat z.cps).foldl (· ++ ·) #[]⟩ : Str).length ≤ 9000 := by
          have e := size_foldl_replicate z.cps k.toNat #[]
          show Array.size (List.foldl _ _ _) ≤ _
          have : z.cps.size ≤ 100 := hz
          have := Nat.mul_le_mul (show k.toNat ≤ 90 by lia) this
          rw [Array.size_empty] at e
          exact Nat.le_trans (Nat.le_of_eq e) (by lia)
        exact ⟨Nat.le_trans this (by decide), _, σ, .str _ _, I.toks _, hq _ this (all_foldl_replicate z.cps ho _ _ (by decide +kernel))⟩
inductive Opn (g : Gb) (c : Cx) (σ : AH) (s : Shared) : Prop | mk (led : List (Addr × Obj)) (F : Fr c.base c.L s.heap c.m) (N : News c.base c.L s.heap led) (k : ∀ h' tk, Fr c.base c.L h' c.m → News c.base c.L h' led → Inv g c σ { s with heap := h', toks := tk })
theorem Inv.open (I : Inv g c σ s) : Opn g c σ s := by
  obtain ⟨D, led, H, A, K⟩ := I
  exact ⟨led, A.fr, A.news, fun h' tk F N => ⟨D, led, H, ⟨F, N, A.gens, A.drawn, A.os⟩, K⟩⟩
theorem op_min (hA : A.handled = none) (I : Inv g c σ s) (hv : VR v x) (hu : VR u y) (h : sem2 .min x y Q σ) : wpAny (model g.prog g.w) A (call (.builtin "min") [v, u]) (PV g c Q) E s := by
  obtain ⟨i, j, rfl, rfl, hq⟩ := h
  cases hv; cases hu
  obtain ⟨led, F, N, k⟩ := I.open
  exact min_two_N hA F N fun h' tk F' N' => ⟨_, σ, .int _ _, k h' tk F' N', hq⟩
theorem op_max (hA : A.handled = none) (I : Inv g c σ s) (hv : VR v x) (hu : VR u y) (h : sem2 .max x y Q σ) : wpAny (model g.prog g.w) A (call (.builtin "max") [v, u]) (PV g c Q) E s := by
  obtain ⟨i, j, rfl, rfl, hq⟩ := h
  cases hv; cases hu
  obtain ⟨led, F, N, k⟩ := I.open
  exact max_two_N hA F N fun h' tk F' N' => ⟨_, σ, .int _ _, k h' tk F' N', hq⟩
theorem IsL.isList {h : Heap} {l : Addr} {items : Array Value} {n : Nat} (i : IsL h l items n) : h.IsList l items := ⟨_, i, rfl, n, rfl⟩
theorem VRs.size {vs xs} (r : VRs vs xs) : (List.toArray vs).size = xs.length := by simp [r.length]
theorem VRs.at {vs : List Value} {xs : List AV} (h : VRs vs xs) {i : Nat} {x : AV} (e : xs[i]? = some x) : GetR (List.toArray vs)[i]? x := by
  obtain ⟨v, e, r⟩ := h.get e
  exact ⟨v, by simpa using e, r⟩
theorem op_idx (I : Inv g c σ s) (hv : VR v x) (hu : VR u y) (h : sem2 .idx x y Q σ) : wpAny (model g.prog g.w) A (getItem v u) (PV g c Q) E s := by
  obtain ⟨l, k, xs, p, z, rfl, rfl, hl, hlim, hp, hz, hq⟩ := h
  cases hv; cases hu
  obtain ⟨vs, n, hL, r⟩ := I.list hl
  obtain ⟨w, hw, hr⟩ := r.at hz
  have lz : lim = 10000 := rfl
  unfold place at hp
  split at hp
  · rename_i h0
    split at hp
    · cases hp
      exact wpAny_getItem_list hL.isList h0 (by lia) hw ⟨_, σ, hr, I, hq⟩
    · cases hp
  · rename_i h0
    split at hp
    · cases hp
      refine wpAny_getItem_list_neg hL.isList (by lia) (by rw [r.size]; lia) (by lia) (by rw [r.size]; exact hw) ⟨_, σ, hr, I, hq⟩
    · cases hp
theorem op_list {vs : List Value} {xs : List AV} (I : Inv g c σ s) (r : VRs vs xs) (hl : xs.length ≤ lim) (h : ∀ a, σ a = none → Q (.ref a) (σ.put a (.list xs))) : wpAny (model g.prog g.w) A (newList vs) (PV g c Q) E s := by
  obtain ⟨hn, I'⟩ := I.newList (tk := s.toks) (ys := xs) (vs := vs) (n := 0) (get_size s.heap) (fun b o e => Heap.get?_push_of_some _ e) (Heap.get?_push_size _ rfl) r
  exact wpAny_newList ⟨_, _, .ref _, I', h _ hn⟩ (by rw [r.length]; exact Nat.le_trans hl (by decide))
theorem op_tup {vs : List Value} {xs : List AV} (I : Inv g c σ s) (r : VRs vs xs) (hl : xs.length ≤ lim) (h : ∀ a, σ a = none → Q (.ref a) (σ.put a (.tup xs))) : wpAny (model g.prog g.w) A (newTuple vs) (PV g c Q) E s := by
  obtain ⟨hn, I'⟩ := I.newTup (tk := s.toks) (ys := xs) (vs := vs) (get_size s.heap) (fun b o e => Heap.get?_push_of_some _ e) ⟨⟨.type "tuple", none, .seq vs.toArray 0, #[]⟩, Heap.get?_push_size _ rfl, rfl, 0, rfl⟩ r
  exact wpAny_newTuple ⟨_, _, .ref _, I', h _ hn⟩ (by rw [r.length]; exact Nat.le_trans hl (by decide))
theorem op_pushList {ws : List Value} {zs : List AV} (I : Inv g c σ s) (r : VRs ws zs) {arr : Array Value} (e : arr = ws.toArray) (h : ∀ a, σ a = none → Q (.ref a) (σ.put a (.list zs))) :
    PV g c Q (.ref s.heap.objs.size) { s with heap := s.heap.push { cls := .type "list", data := .seq arr } } := by
  subst e
  obtain ⟨hn, I'⟩ := I.newList (tk := s.toks) (ys := zs) (vs := ws) (n := 0) (get_size s.heap) (fun b o e => Heap.get?_push_of_some _ e) (Heap.get?_push_size _ rfl) r
  exact ⟨_, _, .ref _, I', h _ hn⟩
theorem op_lcat (I : Inv g c σ s) (hv : VR v x) (hu : VR u y) (h : sem2 .lcat x y Q σ) : wpAny (model g.prog g.w) A (binaryOp .Add v u) (PV g c Q) E s := by
  obtain ⟨l, m, xs, ys, rfl, rfl, hl, hm, hlim, hq⟩ := h
  cases hv; cases hu
  obtain ⟨vs, n, hL, r⟩ := I.list hl
  obtain ⟨us, n', hM, r'⟩ := I.list hm
  exact P.add_list hL hM (op_pushList I (r.append r') (by simp) hq) (by rw [r.size, r'.size]; exact Nat.le_trans hlim (by decide))
theorem op_len (I : Inv g c σ s) (hv : VR v x) (h : sem1 .len x Q σ) : wpAny (model g.prog g.w) A (call (.builtin "len") [v]) (PV g c Q) E s := by
  obtain ⟨l, xs, rfl, hx, hl, hq⟩ := h
  cases hv
  obtain ⟨vs, n, hL, r⟩ := I.list hx
  have lz : lim = 10000 := rfl
  refine call_len_list hL.isList (by rw [r.size]; lia) ?_
  rw [r.size]
  exact ⟨_, σ, .int _ _, I.toks _, hq⟩
theorem op_toL (I : Inv g c σ s) (hv : VR v x) (h : sem1 .toL x Q σ) : wpAny (model g.prog g.w) A (call (.type "list") [v]) (PV g c Q) E s := by
  obtain ⟨l, xs, rfl, hx, hlim, hq⟩ := h
  cases hv
  obtain ⟨vs, n, hL, r⟩ := I.list hx
  refine call_list_seq l (.inl rfl) hL rfl rfl (fun h' c' k e => ?_) (by rw [r.size]; exact Nat.le_trans hlim (by decide))
  obtain ⟨hn, I'⟩ := I.newList (tk := s.toks) (ys := xs) (vs := vs) (get_size s.heap) k e r
  exact ⟨_, _, .ref _, I', hq _ hn⟩
end
end
section
set_option tactic.hygienic false
open PySem PySem.W PySem.Calls PyProof.Rows
inductive PartR : Value → AV → Option Int → Prop where
  | none : PartR .none .none none
  | int (i t) : PartR (.int i t) (.int i) (some i)
theorem PartR.isPart {v x o} (h : PartR v x o) : IsPart v o := by cases h <;> constructor
theorem partR {v x} (h : VR v x) {n i : Nat} (e : loB n x = some i ∨ hiB n x = some i) : ∃ o, PartR v x o := by
  cases h with
  | none => exact ⟨_, .none⟩
  | int => exact ⟨_, .int _ _⟩
  | bool | str | ref => rcases e with e | e <;> cases e
theorem filterMap_run (vs : List Value) (i n : Nat) : ((List.range n).map fun (k : Nat) => i + k).filterMap (vs.toArray[·]?) = (vs.drop i).take n := by
  induction n with
  | zero => simp
  | succ n ih =>
    rw [List.range_succ, List.map_append, List.filterMap_append, ih, List.take_add_one]
    congr 1
    simp only [List.map_cons, List.map_nil, List.filterMap_cons, List.filterMap_nil, List.getElem?_toArray, List.getElem?_drop]
    cases vs[i + n]? <;> rfl
theorem sliceRange_run (i j : Nat) : sliceRange (i : Int) (j : Int) 1 = (List.range (j - i)).map fun (k : Nat) => i + k := by
  unfold sliceRange
  simp only [show (1 : Int) > 0 by decide, if_true]
  have e : (if (i : Int) < j then ((j : Int) - i + 1 - 1) / 1 else 0).toNat = j - i := by
    split
    · rw [Int.ediv_one]; lia
    · lia
  rw [e]
  exact List.map_congr_left fun k Ω => by lia
theorem clamp_t (k : Int) (n : Nat) : (max 0 (min (if k < 0 then k + (n:Int) else k) n) : Int) = ((clampI n k).toNat : Nat) := by
  unfold clampI
  by_cases h : k < 0
  · rw [if_pos h, if_pos h, Int.toNat_of_nonneg (Int.le_max_right ..), Int.max_comm, Int.min_eq_left (Int.add_le_of_le_sub_right ((Int.sub_self (n:Int)).symm ▸ Int.le_of_lt h))]
  · rw [if_neg h, if_neg h]
    have : 0 ≤ min k n := Int.le_min.mpr ⟨Int.not_lt.mp h, Int.natCast_nonneg n⟩
    rw [Int.toNat_of_nonneg this, Int.max_eq_right this]
theorem bounds_lo (vs : List Value) {v x lo hi'} {i : Nat} (hv : PartR v x lo) (hi : loB vs.length x = some i) : (sliceBounds lo hi' none vs.toArray.size).1 = (i : Int) := by
  cases hv with
  | none => injection hi with hi; subst hi; rfl
  | int k => injection hi with hi; subst hi; exact clamp_t k vs.length
theorem bounds_hi (vs : List Value) {u y lo hi'} {j : Nat} (hu : PartR u y hi') (hj : hiB vs.length y = some j) : (sliceBounds lo hi' none vs.toArray.size).2.1 = (j : Int) := by
  cases hu with
  | none => injection hj with hj; subst hj; rfl
  | int k => injection hj with hj; subst hj; exact clamp_t k vs.length
theorem slicePick_cut (vs : List Value) {v u x y lo hi} {i j : Nat} (hv : PartR v x lo) (hu : PartR u y hi) (hi' : loB vs.length x = some i) (hj : hiB vs.length y = some j) :
    slicePick vs.toArray lo hi none = ((vs.drop i).take (j - i)).toArray := by
  have a := bounds_lo vs hv hi' (hi' := hi)
  have b := bounds_hi vs hu hj (lo := lo)
  have d : (sliceBounds lo hi none vs.toArray.size).2.2 = 1 := rfl
  unfold slicePick
  rw [a, b, d, sliceRange_run, filterMap_run]
theorem rev_t {n k : Nat} (h : k < n) : ((n : Int) - 1 + -1 * k).toNat = n - 1 - k := by
  obtain ⟨d, rfl⟩ := Nat.exists_eq_add_of_lt h
  have e : ((k + d + 1 : Nat) : Int) - 1 = d + k := (show (k + d : Int) + 1 - 1 = k + d from Int.add_sub_cancel ..).trans (Int.add_comm k d)
  rw [Nat.add_sub_cancel, Nat.add_sub_cancel_left, e, Int.neg_mul, Int.one_mul, Int.add_neg_cancel_right]; rfl
theorem rev_c {n : Nat} : (if (n : Int) - 1 > -1 then ((n : Int) - 1 - -1 - -1 - 1) / (- -1) else 0).toNat = n := by
  cases n with
  | zero => rfl
  | succ n =>
    have e : ((n + 1 : Nat) : Int) - 1 = n := Int.add_sub_cancel n 1
    rw [e, if_pos (show (n : Int) > -1 from Int.lt_of_lt_of_le (by decide) (Int.natCast_nonneg n))]
    show (((n:Int) + 1 + 1 - 1) / 1).toNat = n + 1
    rw [Int.ediv_one, Int.add_sub_cancel]; rfl
theorem slicePick_rev (vs : List Value) : slicePick vs.toArray none none (some (-1)) = vs.reverse.toArray := by
  have e : sliceRange (sliceBounds none none (some (-1)) vs.toArray.size).1 (sliceBounds none none (some (-1)) vs.toArray.size).2.1 (sliceBounds none none (some (-1)) vs.toArray.size).2.2 = ((List.range vs.length).map fun (k : Nat) => 0 + k).reverse := by
    show List.map (fun k : Nat => ((vs.length : Int) - 1 + -1 * k).toNat) (List.range (if (vs.length : Int) - 1 > -1 then ((vs.length : Int) - 1 - -1 - -1 - 1) / (- -1) else 0).toNat) = _
    rw [rev_c]
    refine List.ext_getElem (by rw [List.length_map, List.length_reverse, List.length_map]) fun k h1 h2 => ?_
    rw [List.length_map, List.length_range] at h1
    rw [List.getElem_map, List.getElem_range, List.getElem_reverse, List.getElem_map, List.getElem_range, List.length_map, List.length_range, Nat.zero_add]
    exact rev_t h1
  unfold slicePick
  rw [e, List.filterMap_reverse, filterMap_run, List.drop_zero, List.take_length]
section
variable {g : Gb} {c : Cx} {σ : AH} {s : Shared} {A : Around} {E : Value → Shared → Prop} {Q : AV → AH → Prop} {v u : Value} {x y : AV}
theorem op_sliceL (I : Inv g c σ s) {l : Nat} {vs : List Value} {xs : List AV} (hL : s.heap.IsList l vs.toArray) (r : VRs vs xs) (hlim : xs.length ≤ lim) {vl vu : Value} {al au : AV} {i j : Nat} (rl : VR vl al) (ru : VR vu au)
    (hi : loB xs.length al = some i) (hj : hiB xs.length au = some j) {sl : Addr} (hs : s.heap.IsSliceOf sl vl vu .none) (h : ∀ a, σ a = none → Q (.ref a) (σ.put a (.list (cut xs i j)))) :
    wpAny (model g.prog g.w) A (getItem (.ref l) (.ref sl)) (PV g c Q) E s := by
  obtain ⟨lo, pl⟩ := partR rl (.inl hi)
  obtain ⟨hi', pu⟩ := partR ru (.inr hj)
  refine wpAny_getItem_list_slice hL hs pl.isPart pu.isPart .none (by simp) ?_ (by rw [r.size]; exact Nat.le_trans hlim (by decide))
  rw [← r.length] at hi hj
  exact op_pushList I ((r.drop i).take (j - i)) (slicePick_cut vs pl pu hi hj) h
theorem op_slice (I : Inv g c σ s) {l : Nat} {xs : List AV} (hl : σ l = some (.list xs)) (hlim : xs.length ≤ lim) {vl vu : Value} {al au : AV} {i j : Nat} (rl : VR vl al) (ru : VR vu au)
    (hi : loB xs.length al = some i) (hj : hiB xs.length au = some j) {sl : Addr} (hs : s.heap.IsSliceOf sl vl vu .none) (h : ∀ a, σ a = none → Q (.ref a) (σ.put a (.list (cut xs i j)))) :
    wpAny (model g.prog g.w) A (getItem (.ref l) (.ref sl)) (PV g c Q) E s :=
  let ⟨vs, n, hL, r⟩ := I.list hl; op_sliceL I hL.isList r hlim rl ru hi hj hs h
theorem op_rev (I : Inv g c σ s) (hv : VR v x) (h : sem1 .rev x Q σ) {sl : Addr} {t : Tok} (hs : s.heap.IsSliceOf sl .none .none (.int (-1) t)) : wpAny (model g.prog g.w) A (getItem v (.ref sl)) (PV g c Q) E s := by
  obtain ⟨l, xs, rfl, hl, hlim, hq⟩ := h
  cases hv
  obtain ⟨vs, n, hL, r⟩ := I.list hl
  refine wpAny_getItem_list_slice hL.isList hs .none .none (.int _ _) (by simp) ?_ (by rw [r.size]; exact Nat.le_trans hlim (by decide))
  exact op_pushList I r.reverse (slicePick_rev vs) hq
end
end
section
set_option tactic.hygienic false
open PySem PySem.W PySem.Calls PyProof.Rows
section
variable {g : Gb} {c : Cx} {σ : AH} {s : Shared} {A : Around} {E : Value → Shared → Prop} {Q : AV → AH → Prop} {v u : Value} {x y : AV}
theorem RdV.reads (I : Inv g c σ s) {x : AV} {d : PyData} (h : RdV σ x d) {v : Value} (r : VR v x) : ∃ as, Reads s.heap v d as :=
  @RdV.rec σ (fun x d Ω => ∀ v, VR v x → ∃ as, Reads s.heap v d as) (fun xs ds Ω => ∀ vs, VRs vs xs → ∃ as, ReadsAll s.heap vs ds as) (fun v r => by cases r; exact ⟨_, .none⟩) (fun b v r => by cases r; exact ⟨_, .bool b⟩) (fun i v r => by cases r; exact ⟨_, .int i _⟩) (fun z v r => by cases r; exact ⟨_, .str z _⟩)
    (fun e Ω ih v r => by
      cases r
      obtain ⟨vs, n, hL, rs⟩ := I.list e
      obtain ⟨as, q⟩ := ih vs rs
      exact ⟨_, .list hL rfl rfl q⟩)
    (fun e Ω ih v r => by
      cases r
      obtain ⟨vs, ⟨o, ho, hc, n, hd⟩, rs⟩ := I.tup e
      obtain ⟨as, q⟩ := ih vs rs
      exact ⟨_, .tuple ho hc hd q⟩)
    (fun vs r => by cases r; exact ⟨_, .nil⟩)
    (fun Ω Ω ia ib vs r => by
      cases r with
      | cons p q =>
        obtain ⟨_, h1⟩ := ia _ p
        obtain ⟨_, h2⟩ := ib _ q
        exact ⟨_, .cons h1 h2⟩) x d h v r
theorem op_eqd (R : Rm A 0) (I : Inv g c σ s) (hv : VR v x) (hu : VR u y) (h : sem2 .eqd x y Q σ) : wpAny (model g.prog g.w) A (compareOp .Eq v u) (PV g c Q) E s := by
  obtain ⟨d, e, hd, he, sd, se, hq⟩ := h
  obtain ⟨as, ra⟩ := hd.reads I hv
  obtain ⟨bs, rb⟩ := he.reads I hu
  exact eq_dataH ra rb sd se (Nat.lt_of_le_of_lt (show A.units + 64 ≤ 9064 by have := R.un; lia) (by decide)) ⟨_, σ, .bool _, I, hq⟩
theorem op_ned (R : Rm A 0) (I : Inv g c σ s) (hv : VR v x) (hu : VR u y) (h : sem2 .ned x y Q σ) : wpAny (model g.prog g.w) A (compareOp .NotEq v u) (PV g c Q) E s := by
  obtain ⟨d, e, hd, he, sd, se, hq⟩ := h
  obtain ⟨as, ra⟩ := hd.reads I hv
  obtain ⟨bs, rb⟩ := he.reads I hu
  exact ne_dataH ra rb sd se (Nat.lt_of_le_of_lt (show A.units + 64 ≤ 9064 by have := R.un; lia) (by decide)) ⟨_, σ, .bool _, I, hq⟩
theorem op_inl (R : Rm A 0) (I : Inv g c σ s) (hv : VR v x) (hu : VR u y) (h : sem2 .inl x y Q σ) : wpAny (model g.prog g.w) A (compareOp .In v u) (PV g c Q) E s := by
  obtain ⟨l, d, ds, rfl, hd, sd, sds, hdep, hl, hq⟩ := h
  obtain ⟨as, ra⟩ := hd.reads I hv
  have cl : d.canLay0 = true := by unfold SeqAt.shaped at sd; simp at sd; exact sd.1
  have hc : A.units + 1 + min (PyData.depthAll ds) d.depth < cLine := Nat.lt_of_le_of_lt (show _ ≤ 9064 by have := R.un; have := Nat.min_le_left (PyData.depthAll ds) d.depth; lia) (by decide)
  rcases hl with hl | hl
  · obtain ⟨bs, rb⟩ := hl.reads I hu
    exact SeqAt.in_list_reads rb ra sds cl hc ⟨_, σ, .bool _, I, hq⟩
  · obtain ⟨bs, rb⟩ := hl.reads I hu
    exact SeqAt.in_tuple_reads rb ra sds cl hc ⟨_, σ, .bool _, I, hq⟩
theorem KR.keys {kvs : List (Int × Value)} {ds : List (Int × AV)} (h : KR kvs ds) : kvs.map (·.1) = ds.map (·.1) := by
  induction h with | nil => rfl | cons _ _ ih => simp [ih]
theorem KR.length {kvs : List (Int × Value)} {ds : List (Int × AV)} (h : KR kvs ds) : kvs.length = ds.length := by
  induction h with | nil => rfl | cons _ _ ih => simp [ih]
end
end
section
set_option tactic.hygienic false
open PySem PySem.W PySem.Calls PyProof.Rows PySem.SeqAt PySem.MeetsSeq
section
variable {g : Gb} {c : Cx} {σ : AH} {s : Shared} {A : Around} {E : Value → Shared → Prop} {Q : AV → AH → Prop} {v u : Value} {x y : AV} {pos : Pos} {m : Sem Value}
theorem place_lt {n : Nat} {i : Int} {p : Nat} (h : place n i = some p) : p < n := by
  unfold place at h
  split at h <;> split at h <;> (first | (cases h; lia) | cases h)
theorem place_idx {n : Nat} {i : Int} {p : Nat} (h : place n i = some p) : seqIndex? i n = some p ∧ -(n : Int) ≤ i ∧ i < n := by
  unfold place at h
  unfold seqIndex?
  split at h
  · rename_i h0
    split at h
    · cases h
      have : ¬ i < 0 := by lia
      simp only [this, if_false]
      refine ⟨?_, by lia, by lia⟩
      rw [if_pos (by simp; lia)]
    · cases h
  · rename_i h0
    split at h
    · cases h
      have : i < 0 := by lia
      simp only [this, if_true]
      refine ⟨?_, by lia, by lia⟩
      rw [if_pos (by simp; lia)]
    · cases h
theorem op_pop (I : Inv g c σ s) {l : Nat} {xs : List AV} {z : AV} (hl : σ l = some (.list (xs ++ [z]))) (hlim : xs.length ≤ lim) (hq : Q z (σ.put l (.list xs))) :
    wpAny (model g.prog g.w) A (callWith pos (.builtin "list.pop") [.ref l] [] []) (PV g c Q) E s := by
  obtain ⟨vs, n, hL, r⟩ := I.list hl
  obtain ⟨us, w, rfl, r1, r2⟩ := r.snoc
  have hs : (us ++ [w]).toArray.size = us.length + 1 := by simp
  refine P.pop_list hL (by rw [hs]; simp) ⟨_, _, r2, I.updList hl hL ?_ r1, hq⟩ (by rw [hs, r1.length]; have : lim = 10000 := rfl; unfold sizeLine; lia)
  rw [hs]
  simp [Array.eraseIdxIfInBounds, List.eraseIdx_append_of_length_le]
noncomputable def m1Id : M1 → String
  | .append => "list.append"
  | .popAt => "list.pop"
  | .extend => "list.extend"
  | .count => "list.count"
  | .dpop => "dict.pop"
theorem op_append {t : AV} {l : Nat} (ht : t = .ref l) (h : wpAny (model g.prog g.w) A m (PV g c fun u σ => semM .append t u Q σ) E s) :
    wpAny (model g.prog g.w) A (callWith pos (.builtin "list.append") [.ref l] [(false, m)] []) (PV g c Q) E s := by
  refine P.append_list (wpAny_mono h (fun v s' hv => ?_) fun Ω Ω e => e)
  obtain ⟨x, σ, r, I, l', xs, e, hl, hlim, hq⟩ := hv
  subst ht; cases e
  obtain ⟨vs, n, hL, rs⟩ := I.list hl
  exact ⟨_, n, by rw [rs.size]; exact Nat.le_trans (Nat.le_of_lt hlim) (by decide), hL, _, _, .none, I.updList hl hL (us := vs ++ [v]) (by simp) (rs.append (.cons r .nil)), hq⟩
theorem op_popAt {t : AV} {l : Nat} (ht : t = .ref l) (h : wpAny (model g.prog g.w) A m (PV g c fun u σ => semM .popAt t u Q σ) E s) :
    wpAny (model g.prog g.w) A (callWith pos (.builtin "list.pop") [.ref l] [(false, m)] []) (PV g c Q) E s := by
  refine P.pop_at_list (wpAny_mono h (fun v s' hv => ?_) fun Ω Ω e => e)
  obtain ⟨x, σ, r, I, l', k, xs, p, z, e, rfl, hl, hl2, hp, hz, hq⟩ := hv
  subst ht; cases e
  cases r
  obtain ⟨vs, n, hL, rs⟩ := I.list hl
  have lz : lim = 10000 := rfl
  obtain ⟨w, hw, rw'⟩ := rs.at hz
  obtain ⟨p1, p2, p3⟩ := place_idx hp
  have pl := place_lt hp
  refine ⟨_, n, k, _, p, w, by rw [rs.size]; exact Nat.le_trans hl2 (by decide), rfl, hL, ?_, by rw [rs.size]; exact p1, hw, _, _, rw', I.updList hl hL (us := vs.eraseIdx p) ?_ (rs.eraseIdx p), hq⟩
  · unfold Builtin.List.listFitsIndex
    simp; lia
  · have : p < vs.length := by rw [rs.length]; exact pl
    simp [Array.eraseIdxIfInBounds, this]
theorem op_extend {t : AV} {l : Nat} (ht : t = .ref l) (h : wpAny (model g.prog g.w) A m (PV g c fun u σ => semM .extend t u Q σ) E s) :
    wpAny (model g.prog g.w) A (callWith pos (.builtin "list.extend") [.ref l] [(false, m)] []) (PV g c Q) E s := by
  refine P.extend_list (wpAny_mono h (fun v s' hv => ?_) fun Ω Ω e => e)
  obtain ⟨x, σ, r, I, l', b, xs, ys, e, rfl, ne, hl, hb, hlim, hq⟩ := hv
  subst ht; cases e
  cases r
  obtain ⟨vs, n, hL, rs⟩ := I.list hl
  obtain ⟨us, n', hB, rs'⟩ := I.list hb
  have lz : lim = 10000 := rfl
  refine ⟨b, _, _, n, n', by rw [rs.size]; unfold sizeLine; lia, by rw [rs.size, rs'.size]; unfold sizeLine; lia, ?_, rfl, hL, hB, _, _, .none, I.updList hl hL (us := vs ++ us) (by simp) (rs.append rs'), hq⟩
  rw [rs.size, rs'.size]
  unfold Builtin.List.listTooLong sizeLine
  simp; intro _; lia
theorem count_loop' {prog : Program} {w : World} (l : Addr) (items : Array Value) (n : Nat) (x : Value) (e : Nat → Bool) {A : Around} {R : Result → Shared → Prop} (s : Shared)
    (he : ∀ i (h : i < items.size), EqAt A.in1 s items[i] x (e i)) (hl : IsL s.heap l items n) (k : Nat) :
    ∀ (i : Nat) (found : Int), items.size - i = k → R (.ok (.ret (.int (found + (((List.range items.size).drop i).countP e : Nat)) s.toks))) { s with toks := s.toks + 1 } →
      wpAny (model prog w) A.in1 (Builtin.«list.count.loop» ⟨[.ref l, x, rawInt i, rawInt found], []⟩)
        (fun fin s' => match fin with | .done f => R (.ok f) s' | .again c' => c'.quiet = true ∧ codeAny (model prog w) A c' R s') (fun e s' => R (.error e) s') s := by
  obtain ⟨hp, gs, d, tk, os⟩ := s
  induction k with
  | zero =>
    intro i found hk h
    wp_walk using wpAny_loadPart' hl
    have hi : items[((i : Nat) : Int).toNat]? = none := by simp; lia
    have hd : (List.range items.size).drop i = [] := by simp; lia
    rw [hd] at h
    rw [hi]
    wp_walk
    simpa using h
  | succ k ih =>
    intro i found hk h
    wp_walk using wpAny_loadPart' hl
    have hlt : i < items.size := Nat.lt_of_sub_eq_succ hk
    have hi : items[((i : Nat) : Int).toNat]? = some items[i] := by simp [hlt]
    have hd : (List.range items.size).drop i = i :: (List.range items.size).drop (i + 1) := by simp [List.drop_eq_getElem_cons, hlt]
    have hc : ((i : Int) + 1) = ((i + 1 : Nat) : Int) := by push_cast; rfl
    rw [hd, List.countP_cons] at h
    rw [hi]
    refine wpAny_bind (he i hlt prog w _ _ ?_)
    wp_walk
    rw [hc]
    refine ⟨plainId_quiet plain_count_loop _, codeAny_builtin entry_count_loop (by
      rw [Around.under_plainId plain_count_loop _]
      refine ih (i + 1) _ (by rw [Nat.sub_add_eq, hk]; rfl) ?_
      cases hb : e i with
      | false =>
        simp only [hb, Bool.false_eq_true, if_false, Nat.add_zero] at h ⊢
        exact h
      | true =>
        simp only [hb, if_true] at h ⊢
        have e1 : found + 1 + ((List.countP e (List.drop (i + 1) (List.range items.size)) : Nat) : Int) = found + ((List.countP e (List.drop (i + 1) (List.range items.size)) + 1 : Nat) : Int) := by push_cast; lia
        rw [e1]
        exact h)⟩
theorem RdA.length {xs ds} (h : RdA σ xs ds) : xs.length = ds.length := by
  induction xs generalizing ds with
  | nil => cases h; rfl
  | cons x xs ih => cases h with | cons _ b => simp [ih b]
theorem RdA.at {xs : List AV} {ds : List PyData} (h : RdA σ xs ds) : ∀ (i : Nat) (h1 : i < xs.length) (h2 : i < ds.length), RdV σ xs[i] ds[i] := by
  induction xs generalizing ds with
  | nil => intro i h1; simp at h1
  | cons x xs ih =>
    cases h with
    | cons a b =>
      intro i h1 h2
      cases i with
      | zero => exact a
      | succ i => exact ih b i (by simpa using h1) (by simpa using h2)
theorem VRs.at' {vs : List Value} {xs : List AV} (h : VRs vs xs) (i : Nat) (h1 : i < vs.length) (h2 : i < xs.length) : VR vs[i] xs[i] := by
  obtain ⟨v, e, r⟩ := h.get (List.getElem?_eq_getElem h2)
  rw [List.getElem?_eq_getElem h1] at e
  cases e; exact r
theorem canLayAll_at {ds : List PyData} (h : PyData.canLayAll0 ds = true) (i : Nat) (h2 : i < ds.length) : (ds[i]).canLay0 = true := by
  induction ds generalizing i with
  | nil => simp at h2
  | cons d ds ih =>
    unfold PyData.canLayAll0 at h
    simp at h
    cases i with
    | zero => exact h.1
    | succ i => exact ih h.2 i (by simpa using h2)
theorem countP_range (ds : List PyData) (d : PyData) : (List.range ds.length).countP (fun i => match ds[i]? with | some y => PyData.eqv y d | none => false) = ds.countP fun y => PyData.eqv y d := by
  have : ∀ (f : Nat → Bool) (ds : List PyData) (k : Nat), (∀ i (h : i < ds.length), f (k + i) = PyData.eqv ds[i] d) → ((List.range ds.length).map (k + ·)).countP f = ds.countP fun y => PyData.eqv y d := by
    intro f ds
    induction ds with
    | nil => intro k _; rfl
    | cons a ds ih =>
      intro k h
      rw [List.length_cons, List.range_succ_eq_map, List.map_cons, List.map_map, List.countP_cons, List.countP_cons]
      have e : (fun x => k + x) ∘ Nat.succ = fun x => (k + 1) + x := by funext x; simp; lia
      rw [e, ih (k + 1) fun i hi => by have := h (i + 1) (by simpa using hi); rw [show k + (i + 1) = k + 1 + i by lia] at this; simpa using this]
      have := h 0 (by simp)
      simp at this
      simp [this]
  have e := this (fun i => match ds[i]? with | some y => PyData.eqv y d | none => false) ds 0 (fun i hi => by simp [hi])
  simpa using e
theorem list_count' (l : Addr) (items : Array Value) (n : Nat) (x : Value) (e : Nat → Bool) : Meets (Builtin.«list.count» ⟨[.ref l, x], []⟩)
    (fun A R s => (∀ i (h : i < items.size), EqAt A.in1 s items[i] x (e i)) ∧ IsL s.heap l items n ∧ R (.ok (.ret (.int (((List.range items.size).countP e : Nat)) s.toks))) { s with toks := s.toks + 1 }) := by
  intro prog w A R s h
  obtain ⟨he, hl, h⟩ := h
  wp_walk using wpAny_loadPart' hl
  exact ⟨plainId_quiet plain_count_loop _, codeAny_builtin entry_count_loop (by
    rw [Around.under_plainId plain_count_loop _]
    exact count_loop' l items n x e s he hl _ 0 0 rfl (by simpa using h))⟩
theorem op_count (R : Rm A 0) {t : AV} {l : Nat} (ht : t = .ref l) (h : wpAny (model g.prog g.w) A m (PV g c fun u σ => semM .count t u Q σ) E s) :
    wpAny (model g.prog g.w) A (callWith pos (.builtin "list.count") [.ref l] [(false, m)] []) (PV g c Q) E s := by
  refine PySem.seqMethod1_meets F.slot_list_count F.entry_list_count (wpAny_mono h (fun v s₁ h₁ => ?_) fun Ω Ω e => e)
  obtain ⟨x, σ, r, I, ds, d, ht', hd, sd, sd', hq⟩ := h₁
  subst ht
  cases ht' with
  | @list l xs _ hx hds =>
    obtain ⟨vs, n, hL, rs⟩ := I.list hx
    obtain ⟨as, rd⟩ := hd.reads I r
    have cl : d.canLay0 = true := by unfold shaped at sd'; simp at sd'; exact sd'.1
    have cls : PyData.canLayAll0 ds = true := by unfold shaped at sd; simp [PyData.canLay0] at sd; exact sd.1
    have dd : d.depth ≤ 64 := by unfold shaped at sd'; simp at sd'; exact sd'.2
    have len : vs.length = ds.length := rs.length.trans hds.length
    refine ⟨⟨_, hL, rfl⟩, F.args_list_count_2 _ _, _, list_count' l vs.toArray n v (fun i => match ds[i]? with | some y => PyData.eqv y d | none => false), fun i h => ?_, hL, _, σ, .int _ _, I.toks _, ?_⟩
    · have h1 : i < vs.length := by simpa using h
      have h2 : i < xs.length := by rw [← rs.length]; exact h1
      have h3 : i < ds.length := by rw [← len]; exact h1
      obtain ⟨bs, rb⟩ := (hds.at i h2 h3).reads I (rs.at' i h1 h2)
      have : (match ds[i]? with | some y => PyData.eqv y d | none => false) = PyData.eqv ds[i] d := by rw [List.getElem?_eq_getElem h3]
      rw [this, List.getElem_toArray]
      refine eqAt_reads ds[i] d A.in1 s₁ _ v bs as rb rd (canLayAll_at cls i h3) cl ?_
      have := Nat.min_le_right (ds[i]).depth d.depth
      exact Nat.lt_of_le_of_lt (show A.units + 1 + _ ≤ 9065 by have := R.un; lia) (by decide)
    · rw [List.size_toArray, len, countP_range]
      exact hq
end
end
section
set_option tactic.hygienic false
open PySem PySem.W PySem.Calls PyProof.Rows
section
variable {prog : Program} {w : World} {A : Around} {E : Value → Shared → Prop} {s : Shared}
theorem si_nat {k n j : Nat} (hk : seqIndex? (k : Int) n = some j) : k = j := by
  unfold seqIndex? at hk
  rw [if_neg (Int.not_lt.mpr (Int.natCast_nonneg k))] at hk
  by_cases c : (decide (0 ≤ (k : Int)) && decide ((k : Int) < n)) = true
  · injection (if_pos c).symm.trans hk
  · cases (if_neg c).symm.trans hk
theorem setItem_list' {l : Addr} {items : Array Value} {n : Nat} {k : Int} {t : Tok} {v : Value} {j : Nat} {Q : Unit → Shared → Prop} (hL : IsL s.heap l items n)
    (hsz : items.size ≤ 10000) (hk : seqIndex? k items.size = some j) (hj : j < items.size) (b1 : -(items.size : Int) ≤ k) (b2 : k < items.size)
    (h : Q () { s with heap := s.heap.update l (Obj.mapSeq (·.setIfInBounds j v)) }) : wpAny (model prog w) A (setItem (.ref l) (.int k t) v) Q E s := by
  have hl := hL.isList
  unfold setItem
  try with_reducible refine wpAny_holding ?_
  first | refine wpAny_bind (wpAny_pure ?_) | skip
  refine wpAny_bind (wpAny_sequenceKey hl.typeIs (by decide) ?_)
  refine wpAny_bind (wpAny_callSpecial?_slot (name := Str.ofString "__setitem__") hl.typeIs slot_list_setitem
    (wpAny_call_entry slot_list_setitem hl.typeIs entry_list_setitem ?_ (args_list_setitem _ _ _)))
  show wpAny _ _ (Builtin.List.listSubscript? (.int k t) >>= _) _ _ s
  refine wpAny_bind (wpAny_listSubscript_int (by unfold Builtin.List.listFitsIndex; simp only [Bool.and_eq_true, decide_eq_true_eq]; lia) ?_)
  have hx' : items[j]? = some items[j] := Array.getElem?_eq_getElem hj
  cases k with
  | ofNat k =>
    have : k = j := si_nat hk
    subst this
    show wpAny _ _ ((seqItemAt l k >>= fun r => pure (r.map (k, ·))) >>= _) _ _ s
    refine wpAny_bind (wpAny_bind (wpAny_seqItemAt hL rfl (wpAny_pure ?_)))
    rw [hx']
    show wpAny _ _ (setSeqItemAt l k v >>= _) _ _ s
    refine wpAny_bind (wpAny_setSeqItemAt hL rfl ?_)
    first
      | exact wpAny_bind (wpAny_pure (wpAny_pure ⟨.none, rfl, wpAny_pure h⟩))
      | exact wpAny_pure ⟨.none, rfl, wpAny_pure h⟩
  | negSucc k =>
    show wpAny _ _ ((Builtin.List.listItems (.ref l) >>= fun xs => pure ((seqIndex? (Int.negSucc k) xs.size).bind fun i => xs[i]?.map (i, ·))) >>= _) _ _ s
    refine wpAny_bind (wpAny_bind ?_)
    show wpAny _ _ (seqItems? (.ref l) >>= _) _ _ s
    refine wpAny_bind (wpAny_seqItems hL rfl (wpAny_pure (wpAny_pure ?_)))
    rw [hk]
    simp only [Option.bind_some, hx', Option.map_some]
    show wpAny _ _ (setSeqItemAt l j v >>= _) _ _ s
    refine wpAny_bind (wpAny_setSeqItemAt hL rfl ?_)
    first
      | exact wpAny_bind (wpAny_pure (wpAny_pure ⟨.none, rfl, wpAny_pure h⟩))
      | exact wpAny_pure ⟨.none, rfl, wpAny_pure h⟩
theorem setItem_slice' {l sl b : Addr} {items items2 : Array Value} {n n2 : Nat} {vl vu : Value} {lo hi : Option Int} {Q : Unit → Shared → Prop} (hL : IsL s.heap l items n) (hB : IsL s.heap b items2 n2) (ne : b ≠ l)
    (hsz : items.size + items2.size ≤ 10000) (hs : s.heap.IsSliceOf sl vl vu .none) (pl : IsPart vl lo) (pu : IsPart vu hi)
    (h : Q () { s with heap := s.heap.update l (Obj.mapSeq fun xs => xs.extract 0 (sliceBounds lo hi none items.size).1.toNat ++ items2 ++ xs.extract (max (sliceBounds lo hi none items.size).1 (sliceBounds lo hi none items.size).2.1).toNat xs.size) }) :
    wpAny (model prog w) A (setItem (.ref l) (.ref sl) (.ref b)) Q E s := by
  have hl := hL.isList
  obtain ⟨os, hos, hcs, hds⟩ := id hs
  have hTs : s.TypeIs (.ref sl) "slice" := ⟨os, hos, hcs⟩
  unfold setItem
  try with_reducible refine wpAny_holding ?_
  first | refine wpAny_bind (wpAny_pure ?_) | skip
  refine wpAny_bind (wpAny_sequenceKey hl.typeIs (by decide) ?_)
  refine wpAny_bind (wpAny_callSpecial?_slot (name := Str.ofString "__setitem__") hl.typeIs slot_list_setitem
    (wpAny_call_entry slot_list_setitem hl.typeIs entry_list_setitem ?_ (args_list_setitem _ _ _)))
  show wpAny _ _ (Builtin.List.listSubscript? (.ref sl) >>= _) _ _ s
  refine wpAny_bind ?_
  unfold Builtin.List.listSubscript?
  refine wpAny_bind (wpAny_specialOf hTs slice_no_index (wpAny_ifT rfl (wpAny_pure ?_)))
  refine wpAny_bind (wpAny_typeOf hTs (wpAny_ifF (by decide) ?_))
  rw [listSliceParts_eq]
  refine wpAny_bind (wpAny_bind (wpAny_field hos hds (x := .none) rfl (wpAny_bind (wpAny_listPart (k := none) .none (wpAny_ifF Bool.false_ne_true (wpAny_bind (wpAny_field hos hds (x := vl) rfl (wpAny_bind (wpAny_listPart pl (wpAny_bind (wpAny_field hos hds (x := vu) rfl (wpAny_bind (wpAny_listPart pu (wpAny_pure ?_))))))))))))))
  have hsame : ¬ Builtin.List.listSameRef (.ref l) (.ref b) = true := fun z => ne (beq_iff_eq.mp z).symm
  refine wpAny_ifF hsame (wpAny_bind (wpAny_bind (wpAny_typeOf (T := "list") ⟨_, hB, rfl⟩ (wpAny_ifT (by rfl) (listItems_at hB rfl ?_)))))
  refine wpAny_bind (listItems_at hL rfl (wpAny_bind (wpAny_of_eq (sliceIndices_raw lo hi none items.size (by simp)) (wpAny_ifT rfl ?_))))
  have tl : ¬ Builtin.List.listTooLong (items.size + items2.size) = true := by
    unfold Builtin.List.listTooLong sizeLine; simp; lia
  refine wpAny_ifF tl (wpAny_bind (listUpdate_at hL rfl (wpAny_bind (wpAny_letGo (wpAny_pure ⟨.none, rfl, wpAny_pure h⟩))) (Nat.le_trans (show _ ≤ 10000 by lia) (by decide)) ?_))
  rw [Array.size_append, Array.size_append]
  exact Nat.le_trans (Nat.add_le_add (Nat.add_le_add_right (ext_le _ _ _) _) (ext_le _ _ _)) (Nat.le_trans (show _ ≤ 20000 by lia) (by decide))
end
end
section
set_option tactic.hygienic false
open PySem PySem.W PySem.Calls PyProof.Rows
inductive PU (g : Gb) (c : Cx) (Q : AH → Prop) (u : Unit) (s : Shared) : Prop | mk (σ : AH) (I : Inv g c σ s) (q : Q σ)
section
variable {g : Gb} {c : Cx} {σ : AH} {s : Shared} {A : Around} {E : Value → Shared → Prop} {Q : AV → AH → Prop} {v u : Value} {x y : AV} {pos : Pos} {m : Sem Value} {R : AH → Prop}
theorem op_setI (I : Inv g c σ s) {l : Nat} {j : Int} {t : Tok} {xs : List AV} {p : Nat} (hv : VR v x) (hl : σ l = some (.list xs)) (hlim : xs.length ≤ lim) (hp : place xs.length j = some p) (h : R (σ.put l (.list (xs.set p x)))) :
    wpAny (model g.prog g.w) A (setItem (.ref l) (.int j t) v) (PU g c R) E s := by
  obtain ⟨vs, n, hL, rs⟩ := I.list hl
  obtain ⟨p1, p2, p3⟩ := place_idx hp
  have pl := place_lt hp
  refine setItem_list' hL (by rw [rs.size]; exact hlim) (by rw [rs.size]; exact p1) (by rw [rs.size]; exact pl) (by rw [rs.size]; exact p2) (by rw [rs.size]; exact p3) ⟨_, I.updList hl hL (us := vs.set p v) ?_ (rs.set hv p), h⟩
  simp
theorem max_toNat (i j : Nat) : (max (i : Int) (j : Int)).toNat = Nat.max i j := (Nat.le_total i j).elim (fun h => by rw [Int.max_eq_right (Int.ofNat_le.mpr h)]; exact (Nat.max_eq_right h).symm) fun h => by rw [Int.max_eq_left (Int.ofNat_le.mpr h)]; exact (Nat.max_eq_left h).symm
theorem op_setS (I : Inv g c σ s) {l b : Nat} {xs ys : List AV} {i j : Nat} {sl : Addr} {vl vu : Value} {al au : AV} (hl : σ l = some (.list xs)) (hb : σ b = some (.list ys)) (ne : b ≠ l) (hlim : xs.length + ys.length ≤ lim)
    (rl : VR vl al) (ru : VR vu au) (hi : loB xs.length al = some i) (hj : hiB xs.length au = some j) (hs : s.heap.IsSliceOf sl vl vu .none) (h : R (σ.put l (.list (setCut xs ys i j)))) :
    wpAny (model g.prog g.w) A (setItem (.ref l) (.ref sl) (.ref b)) (PU g c R) E s := by
  obtain ⟨vs, n, hL, rs⟩ := I.list hl
  obtain ⟨us, n', hB, rs'⟩ := I.list hb
  obtain ⟨lo, pl⟩ := partR rl (.inl hi)
  obtain ⟨hi', pu⟩ := partR ru (.inr hj)
  rw [← rs.length] at hi hj
  have a := bounds_lo vs pl hi (hi' := hi')
  have b := bounds_hi vs pu hj (lo := lo)
  refine setItem_slice' hL hB ne (by rw [rs.size, rs'.size]; exact hlim) hs pl.isPart pu.isPart ⟨_, I.updList hl hL (us := vs.take i ++ us ++ vs.drop (Nat.max i j)) ?_ (((rs.take i).append rs').append (rs.drop _)), h⟩
  rw [a, b]
  have m1 := max_toNat i j
  simp only [Int.toNat_natCast, m1]
  simp
  exact List.take_of_length_le (by simp)
theorem KR.valueAt {kvs : List (Int × Value)} {ds : List (Int × AV)} (h : KR kvs ds) {i : Int} {z : AV} (e : getD ds i = some z) : ∃ v, valueAt kvs i = some v ∧ VR v z := by
  induction h with
  | nil => cases e
  | @cons j v x es fs r q ih =>
    unfold getD at e
    by_cases hj : j = i
    · subst hj; simp at e; subst e
      exact ⟨v, by simp [PySem.valueAt], r⟩
    · simp [hj] at e
      obtain ⟨u, hu, hr⟩ := ih e
      exact ⟨u, by simpa [PySem.valueAt, hj] using hu, hr⟩
theorem op_didx (I : Inv g c σ s) (hv : VR v x) (hu : VR u y) (h : sem2 .didx x y Q σ) : wpAny (model g.prog g.w) A (getItem v u) (PV g c Q) E s := by
  obtain ⟨l, i, es, z, rfl, rfl, hl, hz, hq⟩ := h
  cases hv
  cases hu
  obtain ⟨kvs, hd, kr, _⟩ := I.dict hl
  obtain ⟨w, hw, hr⟩ := kr.valueAt hz
  exact wpAny_getItem_of (knd := intKind g.prog g.w) (k := i) (by simp [intKind, Value.isInt]) hd.mapOf hw ⟨_, σ, hr, I.toks _, hq⟩
theorem KR.stored {kvs : List (Int × Value)} {ds : List (Int × AV)} (h : KR kvs ds) (nd : (kvs.map (·.1)).Nodup) {i : Int} {v : Value} {x : AV} (r : VR v x) : KR (stored kvs i v) (setD ds i x) := by
  have none : ∀ {kvs : List (Int × Value)} {ds}, KR kvs ds → i ∉ kvs.map (·.1) → KR (kvs.map fun kv => if kv.1 = i then (kv.1, v) else kv) ds := by
    intro kvs ds h
    induction h with
    | nil => intro _; exact .nil
    | @cons j w x es fs rr q ih =>
      intro hn
      simp only [List.map_cons, List.mem_cons, not_or] at hn
      rw [List.map_cons]
      rw [if_neg (Ne.symm hn.1)]
      exact .cons rr (ih hn.2)
  induction h with
  | nil => exact .cons r .nil
  | @cons j w y es fs rr q ih =>
    rw [List.map_cons, List.nodup_cons] at nd
    unfold setD
    by_cases hj : j = i
    · subst hj
      have a : ((j, w) :: es).any (fun kv => decide (kv.1 = j)) = true := by simp
      unfold PySem.stored
      rw [if_pos a]
      rw [List.map_cons, if_pos rfl, if_pos rfl]
      exact .cons r (none q nd.1)
    · rw [if_neg hj]
      have e : PySem.stored ((j, w) :: es) i v = (j, w) :: PySem.stored es i v := by
        unfold PySem.stored
        have : ((j, w) :: es).any (fun kv => decide (kv.1 = i)) = es.any fun kv => decide (kv.1 = i) := by simp [hj]
        rw [this]
        split
        · rw [List.map_cons, if_neg hj]
        · rfl
      rw [e]
      exact .cons rr (ih nd.2)
theorem op_setD (I : Inv g c σ s) {l : Nat} {i : Int} {t : Tok} {es : List (Int × AV)} (hv : VR v x) (hl : σ l = some (.dict es)) (hz : es.length ≤ 1000) (h : R (σ.put l (.dict (setD es i x)))) :
    wpAny (model g.prog g.w) A (setItem (.ref l) (.int i t) v) (PU g c R) E s := by
  obtain ⟨kvs, hd, kr, _⟩ := I.dict hl
  have nd : (kvs.map (·.1)).Nodup := by obtain ⟨_, _, _, _, _, _, _, _, n⟩ := hd; exact n
  refine wpAny_setItem_pairs (knd := intKind g.prog g.w) (k := i) (by simp [intKind, Value.isInt]) hd (fun h' hd' hs => ⟨_, I.setDict hl hs.extBut hd' (kr.stored nd hv), h⟩) ?_
  rw [kr.length]; exact Nat.le_trans hz (by decide)
theorem op_dpop (S : Stat g c.base) {tt : AV} {l : Nat} (ht : tt = .ref l) (h : wpAny (model g.prog g.w) A m (PV g c fun u σ => semM .dpop tt u Q σ) E s) {n : Sem Value} (hn : ∀ s' : Shared, ∀ R, R .none s' → wpAny (model g.prog g.w) A n R E s') :
    wpAny (model g.prog g.w) A (callWith pos (.builtin "dict.pop") [.ref l] [(false, m), (false, n)] []) (PV g c Q) E s := by
  refine method_meetsIn F.slot_dict_pop F.entry_dict_pop rfl (Calls.evalArgs_plain (Calls.spliced_cons (wpAny_mono h (fun v s' hv => ?_) fun Ω Ω e => e)))
  refine Calls.spliced_cons (hn _ _ (Calls.spliced_nil ?_))
  obtain ⟨x, σ, r, I, l', i, e, rfl, hl, hq⟩ := hv
  subst ht; cases e
  cases r
  obtain ⟨kvs, hd, kr, hs⟩ := I.dict hl
  cases kr
  exact ⟨rfl, hd.typeIs, F.args_dict_pop_3 _ _ _, _, meets_dict_pop_default (intKind g.prog g.w) l (k := i) (by simp [intKind, Value.isInt]) hs rfl .none, [], hd, rfl, _, σ, .none, I.toks _, hq⟩
theorem op_dict0 (S : Stat g c.base) (I : Inv g c σ s) (h : ∀ a, σ a = none → Q (.ref a) (σ.put a (.dict []))) {env : Env} : wpAny (model g.prog g.w) A (eval (.Dict [] [] pos) env) (PV g c Q) E s := by
  refine wpAny_Dict_empty ?_
  have low : 1 < c.base.objs.size := modules_low S.T.nolimit
  have F := I.fr
  obtain ⟨o, _, _, ho, _⟩ := F.ns
  have h1 : c.L < s.heap.objs.size := Heap.lt_size ho
  have h2 : c.base.objs.size ≤ c.L := F.above
  have h3 : (s.heap.objs.size == sysModules) = false := beq_eq_false_iff_ne.mpr (Nat.ne_of_gt (Nat.lt_trans low (Nat.lt_of_le_of_lt h2 h1)))
  obtain ⟨hn, I'⟩ := I.newDict (tk := s.toks) (get_size s.heap) h3 (fun b o e => Heap.get?_push_of_some _ e) (Heap.DictOf.new s.heap)
  exact ⟨_, _, .ref _, I', h _ hn⟩
theorem op_isI (S : Stat g c.base) (I : Inv g c σ s) (hv : VR v x) {C : Nat} (hC : C ∈ g.ics) (h : sem1 (.isI C) x Q σ) : wpAny (model g.prog g.w) A (call (.builtin "isinstance") [v, .ref C]) (PV g c Q) E s := by
  have X : g.K.In s.heap := S.X.keeps I.fr.keep
  cases hv with
  | none => exact kia_one kitx_none X trivial (S.kn C hC) (by simp) fun tk => ⟨_, σ, .bool _, I.toks _, h.2 (by simp)⟩
  | bool b => exact kia_one kitx_bool X trivial (S.kb C hC) (by simp) fun tk => ⟨_, σ, .bool _, I.toks _, h.2 (by simp)⟩
  | int i t => exact kia_one kitx_int X trivial (S.kz C hC) (by simp) fun tk => ⟨_, σ, .bool _, I.toks _, h.2 (by simp)⟩
  | str z t => exact kia_one kitx_str X trivial (S.kt C hC) (by simp) fun tk => ⟨_, σ, .bool _, I.toks _, h.2 (by simp)⟩
  | ref a =>
    obtain ⟨D, fs, ha, hq⟩ := h.1 a rfl
    obtain ⟨dx, es, n, IA, hD, _⟩ := I.inst ha
    exact kia_one (kitx_own (S.pg D hD _) (S.hd D hD) (S.cc D hD) S.cn S.ct (S.cm D hD)) X IA (S.ki D hD C hC) (by simp) fun tk => ⟨_, σ, .bool _, I.toks _, hq⟩
theorem FR.getL_some {nm : Nm} {nf : Nat} {es fs} (h : FR nm nf es fs) (x : Str) : (getL x es).isSome = true := by
  have : es.any (·.refKey) = false := by
    induction h with
    | nil => rfl
    | cons _ _ _ ih => rw [List.any_cons, ih]; rfl
  unfold getL
  split
  · rfl
  · rw [this]; rfl
theorem FR.length {nm : Nm} {nf : Nat} {es fs} (h : FR nm nf es fs) : es.length = fs.length := by
  induction h with | nil => rfl | cons _ _ _ ih => simp [ih]
theorem setF_length (fs : List (Nat × AV)) (f : Nat) (x : AV) : (setF fs f x).length ≤ fs.length + 1 := by
  induction fs with
  | nil => simp [setF]
  | cons a fs ih => unfold setF; split <;> simp <;> lia
theorem FR.put {nm : Nm} {nf : Nat} (inj : ∀ i j, i < nf → j < nf → nm i = nm j → i = j) {es fs} (h : FR nm nf es fs) {f : Nat} (hf : f < nf) {v x} (r : VR v x) (hh : Int) (t : Tok) :
    FR nm nf (putL (nm f) hh (.str (nm f) t) v es) (setF fs f x) := by
  induction h with
  | nil => exact .cons hf r .nil
  | @cons h' t' v' f' x' es fs l r' q ih =>
    unfold putL setF
    by_cases z : f' = f
    · subst z
      have e1 : (⟨h', .str (nm f') t', v'⟩ : DictEntry).key.isStr (nm f') = true := by simp [Value.isStr]
      rw [if_pos e1, if_pos rfl]
      exact .cons l r q
    · have ne : ¬ nm f' = nm f := fun q => z (inj _ _ l hf q)
      have e1 : (⟨h', .str (nm f') t', v'⟩ : DictEntry).key.isStr (nm f) = false := by simpa [Value.isStr] using ne
      rw [e1, if_neg z]
      exact .cons l r' ih
theorem op_setA (S : Stat g c.base) (I : Inv g c σ s) {a C : Nat} {fs : List (Nat × AV)} {f : Nat} (hv : VR v x) (ha : σ a = some (.inst C fs)) (hf : f < g.nf) (hz : fs.length ≤ 100) (h : R (σ.put a (.inst C (setF fs f x)))) :
    wpAny (model g.prog g.w) A (setAttr (.ref a) (g.nm f) v) (PU g c R) E s := by
  obtain ⟨dx, es, n, pre, post, IA, hC, r, F, p1, p2, N, k⟩ := I.setF ha
  have r' := r.put S.inj hf hv (PyData.keyHash g.w.params (g.nm f)) (s.toks + 1)
  have U : Upd dx (dictOf es n) (dictOf (putL (g.nm f) (PyData.keyHash g.w.params (g.nm f)) (.str (g.nm f) (s.toks + 1)) v es) (putN (g.nm f) es n)) (pre ++ (dx, dictOf es n) :: post)
      (pre ++ (dx, dictOf (putL (g.nm f) (PyData.keyHash g.w.params (g.nm f)) (.str (g.nm f) (s.toks + 1)) v es) (putN (g.nm f) es n)) :: post) := by
    clear N k
    induction pre with
    | nil => exact .head p2
    | cons p pre ih => exact .tail (p1 p (.head _)) (ih fun q hq => p1 q (.tail _ hq))
  refine set_dict F S.X N IA rfl (S.sa C hC) (S.po C hC) (by unfold takerIn; rw [S.fld C hC f hf]; rfl) (S.hd C hC) (r.getL_some _) rfl U ?_ fun h' F' N' => ⟨_, k h' _ _ _ _ F' N' r', h⟩
  rw [r'.length]
  have := setF_length fs f x
  lia
end
end
section
set_option tactic.hygienic false
open PySem PySem.W PySem.Calls PyProof.Rows
section
variable {prog : Program} {w : World} {A : Around} {E : Value → Shared → Prop} {s : Shared}
theorem ints_items : ∀ (vs : List Value) (kvs : List (Int × Value)), vs.length = kvs.length → (∀ (j : Nat) (v : Value), vs[j]? = some v → ∃ (k : Int) (x : Value), kvs[j]? = some (k, x) ∧ (intKind prog w).is k v = true) → IntsAre vs (kvs.map (·.1)) := by
  intro vs
  induction vs with
  | nil => intro kvs hl _; cases kvs with
    | nil => exact .nil
    | cons _ _ => exact absurd hl (Nat.succ_ne_zero _).symm
  | cons v vs ih => intro kvs hl h; cases kvs with
    | nil => exact absurd hl (Nat.succ_ne_zero _)
    | cons p kvs =>
      obtain ⟨k', x', e, hk⟩ := h 0 v rfl
      have ep : p = (k', x') := Option.some.inj e
      subst ep
      have r := ih kvs (Nat.succ.inj hl) fun j v e => h (j + 1) v e
      obtain ⟨t, e⟩ := Value.isInt_shape hk
      subst e
      exact .cons _ t r
theorem collect_dict {d : Addr} {kvs : List (Int × Value)} {Q : List Value → Shared → Prop} (hh : A.handled = none) (hd : (d == sysModules) = false) (hm : s.heap.DictOf (intKind prog w) d kvs) (h64 : kvs.length < 64)
    (hQ : ∀ h' tk vs, (∀ b o, s.heap.get? b = some o → h'.get? b = some o) → IntsAre vs (kvs.map (·.1)) → Q vs { s with heap := h', toks := tk }) :
    wpAny (model prog w) A (collect (.ref d)) Q E s := by
  obtain ⟨ep, hat⟩ := hm.dictAt
  have hdl := hat.lt_size
  unfold collect
  refine wpAny_bind (wpAny_runValue (codeAny_builtin F.entry_proto_collect ?_))
  rw [Around.under_plainId F.plain_proto_collect _]
  show wpAny _ A.in1 (newList [] >>= fun l => again (.builtin "list.__iadd__" ⟨[l, .ref d], []⟩)) _ _ s
  refine wpAny_bind (wpAny_newObj_type ?_)
  refine wpAny_pure ⟨plainId_quiet F.plain_list_iadd _, codeAny_builtin F.entry_list_iadd ?_⟩
  rw [Around.under_plainId F.plain_list_iadd _]
  show wpAny _ A.in1 (Builtin.List.listExtendWith (.ref s.heap.objs.size) (.ref d) (.ref s.heap.objs.size)) _ _ { s with heap := s.heap.push (seqObj "list" #[] 0) }
  generalize hS : s.heap.objs.size = S at *
  have hat₁ : (s.heap.push (seqObj "list" #[] 0)).DictAt (intKind prog w) d kvs ep := hat.push _
  have hS₁ : (s.heap.push (seqObj "list" #[] 0)).get? S = some (seqObj "list" #[] 0) := hS ▸ Heap.get?_push_size _ rfl
  have sz : (s.heap.push (seqObj "list" #[] 0)).objs.size = S + 1 := by rw [size_push', hS]
  have h1 : Builtin.List.listSameRef (.ref S) (.ref d) = false := by
    have : S ≠ d := Nat.ne_of_gt hdl
    simp [Builtin.List.listSameRef, this]
  unfold Builtin.List.listExtendWith
  refine wpAny_bind (wpAny_typeOf (T := "dict") hat₁.dictOf.typeIs (wpAny_ifF (by rw [h1]; decide) (wpAny_bind (wpAny_pyIter_dict hd hat₁ ?_))))
  rw [sz]
  refine wpAny_bind (wpAny_holding ?_)
  generalize hit : ({ cls := .type "dict_keyiterator", data := .fields #[.ref d, .int 0 0, .int kvs.length 0, .int ep 0] } : Obj) = oi
  have hat₂ : ((s.heap.push (seqObj "list" #[] 0)).push oi).DictAt (intKind prog w) d kvs ep := hat₁.push _
  have hS₂ : ((s.heap.push (seqObj "list" #[] 0)).push oi).get? S = some (seqObj "list" #[] 0) := Heap.get?_push_of_some _ hS₁
  have hI₂ : ((s.heap.push (seqObj "list" #[] 0)).push oi).get? (S + 1) = some oi := sz ▸ Heap.get?_push_size _ (by rw [← hit]; rfl)
  have hk₂ : ∀ b o, s.heap.get? b = some o → ((s.heap.push (seqObj "list" #[] 0)).push oi).get? b = some o := fun b o e => Heap.get?_push_of_some _ (Heap.get?_push_of_some _ e)
  have oc : oi.cls = .type "dict_keyiterator" := by rw [← hit]
  have od : oi.data = .fields #[.ref d, .int (0 : Nat) 0, .int kvs.length 0, .int ep 0] := by rw [← hit]; rfl
  clear hit
  generalize (s.heap.push (seqObj "list" #[] 0)).push oi = H at hat₂ hS₂ hI₂ hk₂ ⊢
  have hT : ({ s with heap := H } : Shared).TypeIs (.ref d) "dict" := hat₂.dictOf.typeIs
  unfold Builtin.List.listLengthHint
  refine wpAny_bind (wpAny_specialOf hT F.slot_dict_len.lookup ?_)
  (generalize hid : ("dict.__len__" : String) = id0; (fail_if_success (clear hid id0)); wp_delta; rw [show splitId id0 = some ("dict", "__len__") from by subst hid; decide +kernel]; subst hid)
  refine wpAny_bind (wpAny_isInstance (b := true) hT (by rw [isSubtype_type]; kernel_rfl) ?_)
  refine wpAny_ifF (by decide) (wpAny_ifT (by decide +kernel) (wpAny_bind (wpAny_typeOf (T := "dict") hT (wpAny_pure (wpAny_ifT (by decide +kernel) (wpAny_bind (wpAny_rule (wpAny_bind ?_))))))))
  show wpAny _ A.in1 (updateSeq S (·.push .none) >>= fun Ω => updateSeq S (·.pop)) _ _ _
  refine wpAny_bind (wpAny_updateSeq hS₂ rfl ?_)
  have hS₃ := Heap.get?_update_self (Obj.mapSeq (·.push Value.none)) hS₂ rfl
  refine wpAny_updateSeq hS₃ rfl ?_
  have hS₄ := Heap.get?_update_self (Obj.mapSeq (·.pop)) hS₃ rfl
  have oth : ∀ b o, b ≠ S → H.get? b = some o → ((H.update S (Obj.mapSeq (·.push Value.none))).update S (Obj.mapSeq (·.pop))).get? b = some o :=
    fun b o hb e => (Heap.get?_update_other _ _ (Ne.symm hb)).trans ((Heap.get?_update_other _ _ (Ne.symm hb)).trans e)
  have hdS : d ≠ S := Nat.ne_of_lt hdl
  have hdI : d ≠ S + 1 := Nat.ne_of_lt (Nat.lt_succ_of_lt hdl)
  have W : WalksS prog w A.in1 (S + 1) _ _ _ _ _ _ := (Walks.dictKeys (prog := prog) (w := w) (knd := intKind prog w) (A := A.in1) hh (S + 1) d hdI kvs ep).toS
  have hSf : S ∉ [S + 1, d] := by
    intro hm
    rcases List.mem_cons.mp hm with e | hm
    · exact absurd e (Nat.ne_of_lt (Nat.lt_succ_self S))
    · exact hdS (List.mem_singleton.mp hm).symm
  refine wpAny_pure ⟨plainId_quiet F.plain_extend_loop _, codeAny_extend_loopS W (Nat.le_trans (Nat.le_of_lt h64) (by decide)) S hSf _ kvs.length 0 _ _ _ rfl (Nat.zero_le _)
    ⟨⟨oi, oth _ _ (Ne.symm (Nat.ne_of_lt (Nat.lt_succ_self S))) hI₂, oc, od⟩, hat₂.at' fun o e => oth _ _ hdS e⟩ hS₄ (ItemsOf.nil _) fun s' acc' c' hm hS' hacc => ?_⟩
  show wpAny _ A (load S >>= _) _ _ s'
  refine wpAny_bind (wpAny_load hS' ?_)
  obtain ⟨hp, gs, dr, tk, os⟩ := s'
  obtain rfl : gs = s.gens := hm.gens
  obtain rfl : dr = s.drawn := hm.drawn
  obtain rfl : os = s.os := hm.os
  refine wpAny_pure (hQ hp tk acc'.toList (fun b o e => hm.heap b o (fun m => ?_) (oth b o ?_ (hk₂ b o e))) ?_)
  · rcases List.mem_cons.mp m with r | m
    · exact absurd r (Nat.ne_of_lt (hS ▸ Heap.lt_size e))
    · exact absurd (List.mem_singleton.mp m) (Nat.ne_of_lt (Nat.lt_succ_of_lt (hS ▸ Heap.lt_size e)))
  · exact Nat.ne_of_lt (hS ▸ Heap.lt_size e)
  · exact ints_items _ _ hacc.1 fun j v e => hacc.2 j v (by rw [← Array.getElem?_toList]; exact e)
theorem vrs_ints {vs : List Value} {ns : List Int} (h : IntsAre vs ns) : VRs vs (ns.map AV.int) := by
  induction h with
  | nil => exact .nil
  | cons n t _ ih => exact .cons (.int n t) ih
theorem op_sorted {g : Gb} {c : Cx} {σ : AH} {x : AV} {v : Value} {Q : AV → AH → Prop} (I : Inv g c σ s) (hh : A.handled = none) (hv : VR v x) (h : sem1 .sorted x Q σ) :
    wpAny (model g.prog g.w) A (call (.builtin "sorted") [v]) (PV g c Q) E s := by
  obtain ⟨l, es, rfl, hl, h64, hq⟩ := h
  cases hv
  obtain ⟨kvs, hd, kr, hs⟩ := I.dict hl
  refine Calls.call_function_entry kind_sorted plain_sorted entry_sorted (args_sorted1 _) ?_
  unfold Builtin.«sorted»
  refine wpAny_bind (m := checkCount "sorted" 1 1 _) (wpAny_pure ?_)
  refine wpAny_bind (collect_dict hh hs hd (by rw [kr.length]; exact h64) fun h' tk vs k hi => ?_)
  have hvl : vs.length < 64 := by rw [hi.length, List.length_map, kr.length]; exact h64
  have hL := Heap.get?_push_size h' (o := seqObj "list" vs.toArray 0) rfl
  have f : s.heap.get? h'.objs.size = none := by
    cases q : s.heap.get? h'.objs.size with
    | none => rfl
    | some o => exact absurd ((k _ _ q).symm.trans (get_size h')) (by simp)
  refine wpAny_bind (wpAny_newList ?_ (Nat.le_trans (Nat.le_of_lt hvl) (by decide)))
  refine wpAny_bind (wpAny_holding (wpAny_call_entry slot_list_sort ⟨_, hL, rfl⟩ entry_list_sort (list_sort_tree hL hi hvl fun out ns' a1 a2 a3 => ⟨_, rfl, ?_⟩) (args_list_sort _)))
  refine wpAny_pure ⟨_, rfl, ?_⟩
  obtain ⟨m, hm⟩ := sortedHeap_at hL (out := out)
  have ks : ∀ b o, s.heap.get? b = some o → (sortedHeap (h'.push (seqObj "list" vs.toArray 0)) h'.objs.size vs out).get? b = some o := fun b o e => by
    have := Heap.lt_size (k b o e)
    exact (sortedHeap_old (Nat.ne_of_lt this) (by rw [size_push']; exact Nat.lt_succ_of_lt this)).trans (Heap.get?_push_of_some _ (k b o e))
  obtain ⟨hn, I'⟩ := I.newList (tk := tk) (ys := ns'.map AV.int) (vs := out.toList) (n := m) f ks hm (vrs_ints a1)
  exact ⟨_, _, .ref _, I', hq _ _ hn (by rw [← kr.keys]; exact a2) a3⟩
end
end
section
set_option tactic.hygienic false
open PySem PySem.W PySem.Calls PyProof.Rows
noncomputable def FrOk (c : Cx) (l : List Env) : Prop :=
  (∀ env ∈ l, env.scope.kind ≠ .module ∧ ∃ L, env.frame = some L ∧ c.base.get? L = none ∧ (L = c.L ∨ ∃ o es n, (L, o) ∈ c.keep ∧ o.data = .dict es n))
structure EnvOk (c : Cx) (env : Env) : Prop where
  hk : env.scope.kind = .function
  hl : env.locals = c.L
  hg : env.globals = mainGlobals
  hb : env.builtins = builtinsNs
inductive At1 (c : Cx) (env : Env) (x : Str) (w : Value) : Prop where
  | local (hk : env.kindOf x = some .local) (hm : c.m x = some w)
  | cell (a : Addr) (o : Obj) (hk : env.kindOf x = some .cell) (hc : env.cells.lookup x = some a) (ho : (a, o) ∈ c.all) (hd : o.data = .cell (some w))
  | free (a : Addr) (o : Obj) (hk : env.kindOf x = some .free) (hc : env.cells.lookup x = some a) (ho : (a, o) ∈ c.all) (hd : o.data = .cell (some w))
noncomputable def LocR (g : Gb) (c : Cx) (env : Env) (ρ : Loc) : Prop := ∀ x v, ρ x = some v → x < g.nN ∧ ∃ w, VR w v ∧ At1 c env (g.nm x) w
structure AOk (g : Gb) (A : Around) (c : Cx) (n : Nat) : Prop where
  hA : A.handled = none
  rm : Rm A n
  st : Stat g c.base
  fr : ∃ env outer, A.frames = some (env :: outer) ∧ FrOk c (env :: outer)
noncomputable def Held (B : Heap) (l : List Env) (e : Addr) (cls a0 fl : Value) (h : Heap) : Prop := B.StaysIn h ∧ B.get? e = none ∧ h.FunFrames B l ∧ h.TracedAtW B e cls a0 fl
noncomputable def frs (l : List Env) : List Addr := l.filterMap (·.frame)
inductive ThC (g : Gb) (l : List Env) (c : Cx) (E : EX) (v : Value) (s : Shared) : Prop
  | mk (e : Addr) (σ : AH) (D : Nat → Nat) (led : List (Addr × Obj)) (B : Heap) (a0 : Value) (hv : v = .ref e) (hE : E σ) (H : Led g σ D led) (W : At c led s) (K : Kp c σ D led)
    (HH : ∃ fl, Held B l e (.ref g.die) a0 fl s.heap) (hb : c.base.StaysIn B) (hB : ∀ q ∈ led, q.1 ∉ frs l → B.get? q.1 = some q.2)
inductive Th (g : Gb) (A : Around) (c : Cx) (E : EX) (v : Value) (s : Shared) : Prop | mk (env : Env) (outer : List Env) (hf : A.frames = some (env :: outer)) (T : ThC g (env :: outer) c E v s)
theorem Th.mono {g : Gb} {A : Around} {c : Cx} {E E' : EX} {v : Value} {s : Shared} (h : Th g A c E v s) (k : ∀ σ, E σ → E' σ) : Th g A c E' v s := by
  obtain ⟨env, outer, hf, e, σ, D, led, B, a0, h1, h2, h3, h4, h5, h6, h7, h8⟩ := h
  exact ⟨env, outer, hf, e, σ, D, led, B, a0, h1, k _ h2, h3, h4, h5, h6, h7, h8⟩
theorem Th.no {g : Gb} {A : Around} {c : Cx} {v : Value} {s : Shared} (h : Th g A c (fun Ω => False) v s) : False := by
  obtain ⟨_, _, _, _, _, _, _, _, _, _, z, _⟩ := h; exact z
theorem PV.mono {g : Gb} {c : Cx} {Q Q' : AV → AH → Prop} {v : Value} {s : Shared} (h : PV g c Q v s) (k : ∀ x σ, Q x σ → Q' x σ) : PV g c Q' v s := by
  obtain ⟨x, σ, r, I, q⟩ := h
  exact ⟨x, σ, r, I, k _ _ q⟩
noncomputable abbrev SemF := Nat → List AV → PT
noncomputable def CallOk (g : Gb) (n : Nat) (Φ : SemF) : Prop :=
  ∀ f vs Q E σ, Φ f vs Q E σ → ∀ A c, A.depth + 2 * n ≤ 901 → A.units + 8 * n ≤ 9002 → A.handled = none → Stat g c.base → (∃ env outer, A.frames = some (env :: outer) ∧ FrOk c (env :: outer)) → ∀ vals s, VRs vals vs → Inv g c σ s →
    codeAny (model g.prog g.w) A (.call (.ref (g.fa f)) ⟨vals, []⟩) (fun r s' => match r with | .ok (.ret v) => PV g c Q v s' | .ok _ => False | .error e => Th g A c E e s') s
noncomputable def OkE (g : Gb) (Φ : SemF) (A : Around) (c : Cx) (env : Env) (x : X) (e : Expr) : Prop :=
  ∀ ρ, LocR g c env ρ → ∀ Q E σ s, Inv g c σ s → ev Φ x ρ Q E σ → wpAny (model g.prog g.w) A (eval e env) (PV g c Q) (Th g A c E) s
inductive PVs (g : Gb) (c : Cx) (Q : List AV → AH → Prop) (vs : List Value) (s : Shared) : Prop | mk (xs : List AV) (σ : AH) (r : VRs vs xs) (I : Inv g c σ s) (q : Q xs σ)
inductive PB (g : Gb) (c : Cx) (Q : Bool → AH → Prop) (b : Bool) (s : Shared) : Prop | mk (σ : AH) (I : Inv g c σ s) (q : Q b σ)
noncomputable def OkEs (g : Gb) (Φ : SemF) (A : Around) (c : Cx) (env : Env) (xs : XS) (es : List Expr) : Prop :=
  ∀ ρ, LocR g c env ρ → ∀ Q E σ s, Inv g c σ s → evs Φ xs ρ Q E σ → wpAny (model g.prog g.w) A (spliced (es.map fun e => (false, eval e env))) (PVs g c Q) (Th g A c E) s
noncomputable def OkT (g : Gb) (Φ : SemF) (A : Around) (c : Cx) (env : Env) (t : T) (e : Expr) : Prop :=
  ∀ ρ, LocR g c env ρ → ∀ Q E σ s, Inv g c σ s → tst Φ t ρ Q E σ → wpAny (model g.prog g.w) A (isTrue e env (eval e env)) (PB g c Q) (Th g A c E) s
section
variable {g : Gb} {Φ : SemF} {A : Around} {c : Cx} {env : Env} {n : Nat}
theorem okE_none {k pos} : OkE g Φ A c env .none (.Constant .none k pos) := fun Ω Ω Ω Ω σ Ω I h => wpAny_Constant_none ⟨_, σ, .none, I, h⟩
theorem okE_bool {b k pos} : OkE g Φ A c env (.bool b) (.Constant (.bool b) k pos) := fun Ω Ω Ω Ω σ Ω I h => wpAny_Constant_bool ⟨_, σ, .bool b, I, h⟩
theorem okE_str {x k pos} : OkE g Φ A c env (.str x) (.Constant (.str x) k pos) := fun Ω Ω Ω Ω σ Ω I h => wpAny_Constant_str ⟨_, σ, .str _ _, I.toks _, h⟩
theorem okE_int {i k pos} : OkE g Φ A c env (.int i) (.Constant (.int i) k pos) := fun Ω Ω Ω Ω σ Ω I h => wpAny_Constant_int ⟨_, σ, .int _ _, I.toks _, h⟩
theorem okE_loc (EO : EnvOk c env) {x : Nat} {pos} (hd : (g.nm x == ("__debug__" : Str)) = false) (hn : (g.nm x == ("__classdict__" : Str)) = false) : OkE g Φ A c env (.loc x) (.Name (g.nm x) pos) := by
  intro ρ hρ Q E σ s I h
  obtain ⟨v, hv, hq⟩ := h
  obtain ⟨_, w, r, a⟩ := hρ x v hv
  refine wpAny_Name ?_ hd
  have cellAt : ∀ a o, (a, o) ∈ c.all → o.data = .cell (some w) → s.heap.IsCell a (some w) := by
    intro a o ho hd
    obtain ⟨D, led, H, A, K⟩ := I
    obtain ⟨⟨o', m, kr⟩, _⟩ := K _ ho
    exact ⟨o', (A.news _ m).1, kr.data.trans hd⟩
  cases a with
  | «local» hk hm => exact wpAny_loadName_local EO.hk hk (EO.hl ▸ I.fr.ns) hm ⟨v, σ, r, I, hq⟩
  | cell a o hk hc ho hd => exact wpAny_loadName_cell EO.hk hk hc (cellAt a o ho hd) ⟨v, σ, r, I, hq⟩
  | free a o hk hc ho hd => exact wpAny_loadName_free EO.hk hk hc (cellAt a o ho hd) ⟨v, σ, r, I, hq⟩ hn
set_option backward.match.sparseCases false in
noncomputable def abOk : Expr → Bool
  | .Call .. => false
  | _ => true
theorem abOk_of {o : Expr} (h : abOk o = true) (attr : Str) (env : Env) (w : Sem Value) : attributeBase o attr env w = w := by
  have K : true = true → w = w := fun Ω => rfl
  have F : ∀ {P : Prop}, false = true → P := fun h => (Bool.false_ne_true h).elim
  revert h
  cases o <;> first | exact K | exact F
theorem okE_attr (S : Stat g c.base) {a : X} {e : Expr} {f : Nat} {pos} (h : OkE g Φ A c env a e) (hf : f < g.nf) (hb : abOk e = true) : OkE g Φ A c env (.u (.attr f) a) (.Attribute e (g.nm f) pos) := by
  intro ρ hρ Q E σ s I hh
  rw [arm_eval_Attribute, abOk_of hb]
  refine wpAny_bind (wpAny_mono (h ρ hρ _ E σ s I hh) (fun v s₁ h₁ => ?_) fun Ω Ω x => x)
  obtain ⟨x, σ₁, r, I₁, q⟩ := h₁
  exact wpAny_bind (wpAny_standAt (wpAny_bind (wpAny_holding (wpAny_mono (op_attr S I₁ r hf q) (fun r s₂ h₂ => wpAny_bind (wpAny_letTemporaryGo (wpAny_pure h₂))) fun Ω Ω x => x))))
theorem okE_neg {a : X} {e : Expr} {pos} (h : OkE g Φ A c env a e) : OkE g Φ A c env (.u .neg a) (.UnaryOp .USub e pos) := by
  intro ρ hρ Q E σ s I hh
  refine wpAny_UnaryOp (wpAny_mono (h ρ hρ _ E σ s I hh) (fun v s₁ h₁ => ?_) fun Ω Ω x => x)
  obtain ⟨x, σ₁, r, I₁, q⟩ := h₁
  exact op_neg I₁ r q
theorem okE_isN {a : X} {e : Expr} {k p pos} (h : OkE g Φ A c env a e) : OkE g Φ A c env (.u .isN a) (.Compare e [.Is] [.Constant .none k p] pos) := by
  intro ρ hρ Q E σ s I hh
  refine wpAny_Compare1 (wpAny_mono (h ρ hρ _ E σ s I hh) (fun v s₁ h₁ => wpAny_Constant_none ?_) fun Ω Ω x => x)
  obtain ⟨x, σ₁, r, I₁, q⟩ := h₁
  exact op_isN I₁ r q
theorem okE_isNN {a : X} {e : Expr} {k p pos} (h : OkE g Φ A c env a e) : OkE g Φ A c env (.u .isNN a) (.Compare e [.IsNot] [.Constant .none k p] pos) := by
  intro ρ hρ Q E σ s I hh
  refine wpAny_Compare1 (wpAny_mono (h ρ hρ _ E σ s I hh) (fun v s₁ h₁ => wpAny_Constant_none ?_) fun Ω Ω x => x)
  obtain ⟨x, σ₁, r, I₁, q⟩ := h₁
  exact op_isNN I₁ r q
theorem two {a b : X} {e f : Expr} (ha : OkE g Φ A c env a e) (hb : OkE g Φ A c env b f) {ρ : Loc} (hρ : LocR g c env ρ) {P : AV → AV → AH → Prop} {E : EX} {σ : AH} {s : Shared} (I : Inv g c σ s)
    (h : ev Φ a ρ (fun v σ => ev Φ b ρ (fun u σ => P v u σ) E σ) E σ) {R : Value → Value → Shared → Prop} (hR : ∀ v u x y σ s, VR v x → VR u y → Inv g c σ s → P x y σ → R v u s) :
    wpAny (model g.prog g.w) A (eval e env) (fun v s₁ => wpAny (model g.prog g.w) A (eval f env) (fun u s₂ => R v u s₂) (Th g A c E) s₁) (Th g A c E) s := by
  refine wpAny_mono (ha ρ hρ _ E σ s I h) (fun v s₁ h₁ => ?_) fun Ω Ω x => x
  obtain ⟨x, σ₁, r, I₁, q⟩ := h₁
  refine wpAny_mono (hb ρ hρ _ E σ₁ s₁ I₁ q) (fun u s₂ h₂ => ?_) fun Ω Ω x => x
  obtain ⟨y, σ₂, r₂, I₂, q₂⟩ := h₂
  exact hR _ _ _ _ _ _ r r₂ I₂ q₂
noncomputable def binId : B2 → Option Operator
  | .ar op => some (binOf op)
  | .lcat => some .Add
  | .lmul => some .Mult
  | .scat => some .Add
  | .smul => some .Mult
  | _ => none
noncomputable def cmpId : B2 → Option CmpOp
  | .cmp op => some (cmpOf op)
  | .eqd => some .Eq
  | .ned => some .NotEq
  | .inl => some .In
  | _ => none
set_option backward.match.sparseCases false in
noncomputable def plainR : Expr → Bool
  | .Set .. => false
  | _ => true
theorem plainR_of {r : Expr} (h : plainR r = true) (op : CmpOp) : behindInMarks op r = false := by
  have K : true = true → false = false := fun Ω => rfl
  have F : ∀ {P : Prop}, false = true → P := fun h => (Bool.false_ne_true h).elim
  revert h
  cases r <;> first | exact K | exact F
theorem okE_cmp (R : Rm A 0) {a b : X} {e f : Expr} {o : B2} {op : CmpOp} {pos} (ha : OkE g Φ A c env a e) (hb : OkE g Φ A c env b f) (ho : cmpId o = some op) (hr : plainR f = true) : OkE g Φ A c env (.b o a b) (.Compare e [op] [f] pos) := by
  intro ρ hρ Q E σ s I hh
  refine wpAny_Compare1 (two ha hb hρ I hh fun v u x y σ s r r' I q => ?_) (plainR_of hr _)
  cases o <;> first | cases ho | skip
  · exact op_cmp I r r' q
  · exact op_eqd R I r r' q
  · exact op_ned R I r r' q
  · exact op_inl R I r r' q
end
end
section
set_option tactic.hygienic false
open PySem PySem.W PySem.Calls PyProof.Rows
section
variable {g : Gb} {Φ : SemF} {A : Around} {c : Cx} {env : Env} {n : Nat} {σ : AH} {s : Shared} {E : Value → Shared → Prop} {Q : AV → AH → Prop}
theorem flat_replicate (items : List Value) : ∀ (n : Nat) (b : Array Value), ((List.replicate n items.toArray).foldl (fun x1 x2 => x1 ++ x2) b).toList = b.toList ++ (List.replicate n items).flatten
  | 0, b => by simp
  | n + 1, b => by
    show ((List.replicate n items.toArray).foldl (fun x1 x2 => x1 ++ x2) (b ++ items.toArray)).toList = _
    rw [flat_replicate items n (b ++ items.toArray)]
    simp [List.replicate_succ]
theorem VRs.flat {vs xs} (r : VRs vs xs) : ∀ n, VRs (List.replicate n vs).flatten (List.replicate n xs).flatten
  | 0 => .nil
  | n + 1 => by simp only [List.replicate_succ, List.flatten_cons]; exact r.append (r.flat n)
theorem op_lmul {v u : Value} {x y : AV} (I : Inv g c σ s) (hv : VR v x) (hu : VR u y) (h : sem2 .lmul x y Q σ) : wpAny (model g.prog g.w) A (binaryOp .Mult v u) (PV g c Q) E s := by
  obtain ⟨l, k, xs, rfl, rfl, hl, hk, hz, hq⟩ := h
  cases hv; cases hu
  obtain ⟨vs, n, hL, r⟩ := I.list hl
  have lz : lim = 10000 := rfl
  by_cases lo : -(2 ^ 63 : Int) ≤ k
  · obtain ⟨led, F, N, K⟩ := I.newL
    refine mul_list F N hL lo (by lia) (by rw [r.size]; exact Nat.le_trans hz (by decide)) fun h' F' N' => ?_
    have e : (List.foldl (fun x1 x2 => x1 ++ x2) #[] (List.replicate (if vs.toArray.isEmpty = true then 0 else k.toNat) vs.toArray)) = ((List.replicate k.toNat vs).flatten).toArray := by
      apply Array.toList_inj.mp
      rw [flat_replicate]
      by_cases hv : vs = []
      · subst hv; simp
      · have : vs.toArray.isEmpty = false := by simp [hv]
        simp [this]
    rw [e] at N'
    obtain ⟨hn, I'⟩ := K _ _ _ _ _ s.toks F' N' (get_size _) (r.flat k.toNat)
    exact ⟨_, _, .ref _, I', hq _ hn⟩
  · exact absurd hk.1 lo
theorem okE_bin {a b : X} {e f : Expr} {o : B2} {op : Operator} {pos} (ha : OkE g Φ A c env a e) (hb : OkE g Φ A c env b f) (ho : binId o = some op) : OkE g Φ A c env (.b o a b) (.BinOp e op f pos) := by
  intro ρ hρ Q E σ s I hh
  refine wpAny_BinOp (two ha hb hρ I hh fun v u x y σ s r r' I q => ?_)
  cases o <;> first | cases ho | skip
  · exact op_ar I r r' q
  · exact op_lcat I r r' q
  · exact op_lmul I r r' q
  · exact op_scat I r r' q
  · exact op_smul I r r' q
theorem sub_or (slice : Expr) (o i : Value) : subscripted slice false o i = operate [i, o] (getItem o i) ∨ subscripted slice false o i = operate [o, i] (getItem o i) := by
  cases slice with
  | Slice a b c p => cases c with
    | none => exact .inl rfl
    | some c => exact .inr rfl
  | _ => exact .inr rfl
theorem tail_of {value slice : Expr} {o i : Value} {T id : String} {Q : Value → Shared → Prop} (hT : s.TypeIs o T)
    (hl : typeLookup (.type T) "__getitem__" = pure (some (.builtin id))) (h : wpAny (model g.prog g.w) A (getItem o i) Q E s) : wpAny (model g.prog g.w) A (subscriptTail value slice o i) Q E s := by
  unfold subscriptTail
  refine wpAny_bind ?_
  rw [getitemInPython_of_ne hT.not_modules]
  refine wpAny_bind (wpAny_specialOf hT hl ?_)
  have fin : wpAny (model g.prog g.w) A (subscripted slice false o i) (fun r s₃ => wpAny (model g.prog g.w) A (letTemporaryGo value o r >>= fun Ω => pure r) Q E s₃) E s := by
    have k : ∀ vs, wpAny (model g.prog g.w) A (operate vs (getItem o i)) (fun r s₃ => wpAny (model g.prog g.w) A (letTemporaryGo value o r >>= fun Ω => pure r) Q E s₃) E s := fun vs =>
      wpAny_operating (wpAny_mono h (fun r s₃ h₃ => wpAny_bind (wpAny_letTemporaryGo (wpAny_pure h₃))) fun Ω Ω x => x)
    rcases sub_or slice o i with e | e
    · exact e ▸ k _
    · exact e ▸ k _
  first
    | exact wpAny_pure (wpAny_bind fin)
    | exact wpAny_bind (wpAny_pure (wpAny_bind fin))
    | exact wpAny_bind fin
theorem okE_idx {a b : X} {e f : Expr} {pos} (ha : OkE g Φ A c env a e) (hb : OkE g Φ A c env b f) : OkE g Φ A c env (.b .idx a b) (.Subscript e f pos) := by
  intro ρ hρ Q E σ s I hh
  refine Subscript_ (two ha hb hρ I hh fun v u x y σ s r r' I q => ?_)
  obtain ⟨l, k, xs, p, z, rfl, rfl, hl, _⟩ := id q
  cases r
  obtain ⟨vs, n, hL, _⟩ := I.list hl
  exact tail_of hL.isList.typeIs list_getitem_lookup (op_idx I (.ref l) r' q)
theorem okE_didx {a b : X} {e f : Expr} {pos} (ha : OkE g Φ A c env a e) (hb : OkE g Φ A c env b f) : OkE g Φ A c env (.b .didx a b) (.Subscript e f pos) := by
  intro ρ hρ Q E σ s I hh
  refine Subscript_ (two ha hb hρ I hh fun v u x y σ s r r' I q => ?_)
  obtain ⟨l, i, es, z, rfl, rfl, hl, _⟩ := id q
  cases r
  obtain ⟨kvs, hd, _⟩ := I.dict hl
  exact tail_of hd.typeIs F.slot_dict_getitem.lookup (op_didx I (.ref l) r' q)
noncomputable def OkP (g : Gb) (Φ : SemF) (A : Around) (c : Cx) (env : Env) (x : X) (e : Option Expr) : Prop :=
  ∀ ρ, LocR g c env ρ → ∀ Q E σ s, Inv g c σ s → ev Φ x ρ Q E σ → wpAny (model g.prog g.w) A (evalPart e env) (PV g c Q) (Th g A c E) s
theorem okP_absent : OkP g Φ A c env .absent none := fun Ω Ω Ω Ω σ Ω I h => wpAny_pure ⟨_, σ, .none, I, h⟩
theorem okP_some {x : X} {e : Expr} (h : OkE g Φ A c env x e) : OkP g Φ A c env x (some e) := h
theorem Inv.push (I : Inv g c σ s) (o : Obj) : Inv g c σ { s with heap := s.heap.push o } := I.keeps (tk := s.toks) fun Ω Ω e => Heap.get?_push_of_some _ e
theorem sliceG {a lo hi : X} {e : Expr} {l u : Option Expr} {p pos} (ha : OkE g Φ A c env a e) (hl : OkP g Φ A c env lo l) (hu : OkP g Φ A c env hi u) {ρ : Loc} (hρ : LocR g c env ρ) {P : AV → AV → AV → AH → Prop} {E : EX} {σ : AH} {s : Shared} (I : Inv g c σ s)
    (hh : ev Φ a ρ (fun t σ => ev Φ lo ρ (fun u σ => ev Φ hi ρ (fun v σ => P t u v σ) E σ) E σ) E σ) {Q : Value → Shared → Prop}
    (k : ∀ v vl vu x xl xu σ s sl, VR v x → VR vl xl → VR vu xu → Inv g c σ s → P x xl xu σ → s.heap.IsSliceOf sl vl vu .none → wpAny (model g.prog g.w) A (subscriptTail e (.Slice l u none p) v (.ref sl)) Q (Th g A c E) s) :
    wpAny (model g.prog g.w) A (eval (.Subscript e (.Slice l u none p) pos) env) Q (Th g A c E) s := by
  refine Subscript_ (wpAny_mono (ha ρ hρ _ E σ s I hh) (fun v s₁ h₁ => ?_) fun Ω Ω x => x)
  obtain ⟨x, σ₁, r, I₁, q⟩ := h₁
  refine wpAny_Slice (wpAny_mono (hl ρ hρ _ E σ₁ s₁ I₁ q) (fun vl s₂ h₂ => ?_) fun Ω Ω x => x)
  obtain ⟨xl, σ₂, r₂, I₂, q₂⟩ := h₂
  refine wpAny_mono (hu ρ hρ _ E σ₂ s₂ I₂ q₂) (fun vu s₃ h₃ => ?_) fun Ω Ω x => x
  obtain ⟨xu, σ₃, r₃, I₃, q₃⟩ := h₃
  show wpAny _ _ (pure Value.none) _ _ _
  exact wpAny_pure (k _ _ _ _ _ _ _ _ _ r r₂ r₃ (I₃.push { cls := .type "slice", data := .fields #[vl, vu, .none] }) q₃ ⟨_, Heap.get?_push_size _ rfl, rfl, rfl⟩)
theorem okE_slice {a lo hi : X} {e : Expr} {l u : Option Expr} {p pos} (ha : OkE g Φ A c env a e) (hl : OkP g Φ A c env lo l) (hu : OkP g Φ A c env hi u) : OkE g Φ A c env (.slice a lo hi) (.Subscript e (.Slice l u none p) pos) := by
  intro ρ hρ Q E σ s I hh
  refine sliceG ha hl hu hρ I hh fun v vl vu x xl xu σ s sl r r₂ r₃ I q hs => ?_
  obtain ⟨l, xs, i, j, rfl, hl, hlim, hi, hj, hq⟩ := q
  cases r
  obtain ⟨vs, n, hL, _⟩ := I.list hl
  exact tail_of hL.isList.typeIs list_getitem_lookup (op_slice I hl hlim r₂ r₃ hi hj hs hq)
theorem okE_rev {a : X} {e : Expr} {k p p' p'' pos} (ha : OkE g Φ A c env a e) : OkE g Φ A c env (.u .rev a) (.Subscript e (.Slice none none (some (.UnaryOp .USub (.Constant (.int 1) k p') p'')) p) pos) := by
  intro ρ hρ Q E σ s I hh
  refine Subscript_ (wpAny_mono (ha ρ hρ _ E σ s I hh) (fun v s₁ h₁ => ?_) fun Ω Ω x => x)
  obtain ⟨x, σ₁, r, I₁, q⟩ := h₁
  refine wpAny_Slice (wpAny_pure (wpAny_pure ?_))
  show wpAny _ _ (eval _ env) _ _ _
  refine wpAny_UnaryOp (wpAny_Constant_int (P.neg_int ?_))
  obtain ⟨l, xs, rfl, hl, hlim, hq⟩ := id q
  cases r
  have I₄ := (I₁.toks (s₁.toks + 1 + 1)).push { cls := .type "slice", data := .fields #[.none, .none, .int (-1) (s₁.toks + 1)] }
  obtain ⟨vs, n, hL, _⟩ := I₄.list hl
  exact tail_of hL.isList.typeIs list_getitem_lookup (op_rev I₄ (.ref l) q ⟨_, Heap.get?_push_size _ rfl, rfl, rfl⟩)
end
end
section
set_option tactic.hygienic false
open PySem PySem.W PySem.Calls PyProof.Rows
section
variable {M : Model} {A : Around} {env : Env} {s : Shared} {E : Value → Shared → Prop}
theorem isTrue_one {l : Expr} {op : CmpOp} {r : Expr} {pos} {whole : Sem Value} {Q : Bool → Shared → Prop} (hm : behindInMarks op r = false)
    (h : wpAny M A (eval (.Compare l [op] [r] pos) env) (fun v s => ∃ b, v = .bool b ∧ Q b s) E s) : wpAny M A (isTrue (.Compare l [op] [r] pos) env whole) Q E s := fun Γ p hΓ => by
  have h := h Γ p hΓ
  simp only [eval_Compare1, markedBehindIn_of_false hm, Sem.wp_bind', Sem.wp_holding, Sem.wp_cmd_standAt, Sem.wp_operate] at h
  simp only [isTrue_Compare1, markedBehindIn_of_false hm, Sem.wp_bind', Sem.wp_holding, Sem.wp_cmd_standAt, Sem.wp_operate]
  refine Sem.wp_mono M Γ _ (fun a p₁ s₁ h₁ => Sem.wp_mono M Γ _ (fun b Ω s₂ h₂ => Sem.wp_mono M Γ _ (fun c p₃ s₃ h₃ => ?_) (fun Ω Ω Ω x => x) _ _ h₂) (fun Ω Ω Ω x => x) _ _ h₁) (fun Ω Ω Ω x => x) _ _ h
  obtain ⟨b, rfl, q⟩ := h₃
  exact wpAny_truthy_bool q Γ _ hΓ
end
set_option backward.match.sparseCases false in
noncomputable def isVal : Expr → Bool
  | .Name .. => true
  | .Attribute .. => true
  | .Call .. => true
  | .Constant .. => true
  | .Subscript .. => true
  | _ => false
theorem isVal_of {e : Expr} (h : isVal e = true) (env : Env) (whole : Sem Value) : isTrue e env whole = (do let v ← whole; standAt e.pos; holding [v] (truthy v)) := by
  cases e <;> first | rfl | cases h
section
variable {g : Gb} {Φ : SemF} {A : Around} {c : Cx} {env : Env} {n : Nat}
theorem okT_val {x : X} {e : Expr} (h : OkE g Φ A c env x e) (hv : isVal e = true) : OkT g Φ A c env (.e x) e := by
  intro ρ hρ Q E σ s I hh
  refine wpAny_isTrue_value (wpAny_mono (h ρ hρ _ E σ s I hh) (fun v s₁ h₁ => ?_) fun Ω Ω x => x) (isVal_of hv _ _)
  obtain ⟨x, σ₁, r, I₁, b, rfl, q⟩ := h₁
  cases r
  exact wpAny_truthy_bool ⟨σ₁, I₁, q⟩
theorem okT_cmp {x : X} {l : Expr} {op : CmpOp} {r : Expr} {pos} (h : OkE g Φ A c env x (.Compare l [op] [r] pos)) (hr : plainR r = true) : OkT g Φ A c env (.e x) (.Compare l [op] [r] pos) := by
  intro ρ hρ Q E σ s I hh
  refine isTrue_one (plainR_of hr _) (wpAny_mono (h ρ hρ _ E σ s I hh) (fun v s₁ h₁ => ?_) fun Ω Ω x => x)
  obtain ⟨x, σ₁, r, I₁, b, rfl, q⟩ := h₁
  cases r
  exact ⟨b, rfl, σ₁, I₁, q⟩
theorem okT_not {t : T} {e : Expr} {pos} (h : OkT g Φ A c env t e) : OkT g Φ A c env (.not t) (.UnaryOp .Not e pos) := by
  intro ρ hρ Q E σ s I hh
  exact wpAny_isTrue_Not (wpAny_mono (h ρ hρ _ E σ s I hh) (fun b s₁ ⟨σ, I, q⟩ => ⟨σ, I, q⟩) fun Ω Ω x => x)
noncomputable def OkAnd (g : Gb) (Φ : SemF) (A : Around) (c : Cx) (env : Env) (ts : TS) (es : List Expr) : Prop :=
  ∀ ρ, LocR g c env ρ → ∀ Q E σ s, Inv g c σ s → tstAnd Φ ts ρ Q E σ → wpAny (model g.prog g.w) A (allTrue .And es env) (PB g c Q) (Th g A c E) s
noncomputable def OkOr (g : Gb) (Φ : SemF) (A : Around) (c : Cx) (env : Env) (ts : TS) (es : List Expr) : Prop :=
  ∀ ρ, LocR g c env ρ → ∀ Q E σ s, Inv g c σ s → tstOr Φ ts ρ Q E σ → wpAny (model g.prog g.w) A (allTrue .Or es env) (PB g c Q) (Th g A c E) s
theorem okAnd_nil : OkAnd g Φ A c env .nil [] := fun Ω Ω Ω Ω σ Ω I h => wpAny_allTrue_And_nil ⟨σ, I, h⟩
theorem okOr_nil : OkOr g Φ A c env .nil [] := fun Ω Ω Ω Ω σ Ω I h => wpAny_allTrue_Or_nil ⟨σ, I, h⟩
theorem okAnd_cons {t : T} {ts : TS} {e : Expr} {es : List Expr} (h : OkT g Φ A c env t e) (k : OkAnd g Φ A c env ts es) : OkAnd g Φ A c env (.cons t ts) (e :: es) := by
  intro ρ hρ Q E σ s I hh
  refine wpAny_allTrue_And_cons (wpAny_mono (h ρ hρ _ E σ s I hh) (fun b s₁ h₁ => ?_) fun Ω Ω x => x)
  obtain ⟨σ₁, I₁, q⟩ := h₁
  cases b
  · exact ⟨σ₁, I₁, q.1 rfl⟩
  · exact k ρ hρ Q E σ₁ s₁ I₁ (q.2 rfl)
theorem okOr_cons {t : T} {ts : TS} {e : Expr} {es : List Expr} (h : OkT g Φ A c env t e) (k : OkOr g Φ A c env ts es) : OkOr g Φ A c env (.cons t ts) (e :: es) := by
  intro ρ hρ Q E σ s I hh
  refine wpAny_allTrue_Or_cons (wpAny_mono (h ρ hρ _ E σ s I hh) (fun b s₁ h₁ => ?_) fun Ω Ω x => x)
  obtain ⟨σ₁, I₁, q⟩ := h₁
  cases b
  · exact k ρ hρ Q E σ₁ s₁ I₁ (q.2 rfl)
  · exact ⟨σ₁, I₁, q.1 rfl⟩
theorem okT_ands {ts : TS} {es : List Expr} {pos} (h : OkAnd g Φ A c env ts es) : OkT g Φ A c env (.ands ts) (.BoolOp .And es pos) := fun ρ hρ Q E σ s I hh => wpAny_isTrue_BoolOp (h ρ hρ Q E σ s I hh)
theorem okT_ors {ts : TS} {es : List Expr} {pos} (h : OkOr g Φ A c env ts es) : OkT g Φ A c env (.ors ts) (.BoolOp .Or es pos) := fun ρ hρ Q E σ s I hh => wpAny_isTrue_BoolOp (h ρ hρ Q E σ s I hh)
theorem chain3 {a b d : X} {e f k : Expr} {o₁ o₂ : IOp} {pos} (ha : OkE g Φ A c env a e) (hb : OkE g Φ A c env b f) (hd : OkE g Φ A c env d k) (hr : plainR k = true) : OkE g Φ A c env (.chain o₁ o₂ a b d) (.Compare e [cmpOf o₁, cmpOf o₂] [f, k] pos) := by
  intro ρ hρ Q E σ s I hh
  refine Compare_chain (wpAny_mono (ha ρ hρ _ E σ s I hh) (fun v s₁ h₁ => ?_) fun Ω Ω x => x) (by unfold lastMarks lastMarks; exact plainR_of hr _)
  obtain ⟨x, σ₁, r, I₁, q⟩ := h₁
  refine chain_link (wpAny_mono (hb ρ hρ _ E σ₁ s₁ I₁ q) (fun u s₂ h₂ => ?_) fun Ω Ω x => x)
  obtain ⟨y, σ₂, r₂, I₂, i, j, rfl, rfl, q0, q1⟩ := h₂
  have z : sem2 (.cmp o₁) (.int i) (.int j) (fun x σ => x = .bool (o₁.on i j) ∧ σ = σ₂) σ₂ := ⟨i, j, rfl, rfl, rfl, rfl⟩
  refine wpAny_mono (op_cmp I₂ r r₂ z) (fun t s₃ h₃ => ?_) fun Ω Ω x => x
  obtain ⟨_, _, rt, I₃, rfl, rfl⟩ := h₃
  cases rt
  refine wpAny_truthy_bool ?_
  cases hb : o₁.on i j
  · exact ⟨_, _, .bool _, I₃, q0 hb⟩
  · refine chain_last (wpAny_mono (hd ρ hρ _ E _ s₃ I₃ (q1 hb)) (fun w s₄ h₄ => ?_) fun Ω Ω x => x)
    obtain ⟨_, σ₄, r₄, I₄, m, rfl, q4⟩ := h₄
    exact op_cmp I₄ r₂ r₄ ⟨j, m, rfl, rfl, q4⟩
theorem okT_tch {a b d : X} {e f k : Expr} {o₁ o₂ : IOp} {pos} (ha : OkE g Φ A c env a e) (hb : OkE g Φ A c env b f) (hd : OkE g Φ A c env d k) (hr : plainR k = true) : OkT g Φ A c env (.tch o₁ o₂ a b d) (.Compare e [cmpOf o₁, cmpOf o₂] [f, k] pos) := by
  intro ρ hρ Q E σ s I hh
  refine isTrue_chain (wpAny_mono (ha ρ hρ _ E σ s I hh) (fun v s₁ h₁ => ?_) fun Ω Ω x => x) (by unfold lastMarks lastMarks; exact plainR_of hr _)
  obtain ⟨x, σ₁, r, I₁, q⟩ := h₁
  refine test_link (wpAny_mono (hb ρ hρ _ E σ₁ s₁ I₁ q) (fun u s₂ h₂ => ?_) fun Ω Ω x => x)
  obtain ⟨y, σ₂, r₂, I₂, i, j, rfl, rfl, q0, q1⟩ := h₂
  refine wpAny_mono (op_cmp (Q := fun x σ => x = .bool (o₁.on i j) ∧ σ = σ₂) I₂ r r₂ ⟨i, j, rfl, rfl, rfl, rfl⟩) (fun t s₃ h₃ => ?_) fun Ω Ω x => x
  obtain ⟨_, _, rt, I₃, rfl, rfl⟩ := h₃
  cases rt
  refine wpAny_truthy_bool ?_
  cases hb : o₁.on i j
  · obtain ⟨b, e, q⟩ := q0 hb
    cases e
    exact ⟨_, I₃, q⟩
  · refine test_last (wpAny_mono (hd ρ hρ _ E _ s₃ I₃ (q1 hb)) (fun w s₄ h₄ => ?_) fun Ω Ω x => x)
    obtain ⟨_, σ₄, r₄, I₄, m, rfl, q4⟩ := h₄
    refine wpAny_mono (op_cmp (Q := fun x σ => BoolS x fun b => Q b σ) I₄ r₂ r₄ ⟨j, m, rfl, rfl, q4⟩) (fun t s₅ h₅ => ?_) fun Ω Ω x => x
    obtain ⟨_, _, rt, I₅, b, rfl, q⟩ := h₅
    cases rt
    exact wpAny_truthy_bool ⟨_, I₅, q⟩
theorem okE_and2 {a b : X} {e f : Expr} {pos} (ha : OkE g Φ A c env a e) (hb : OkE g Φ A c env b f) : OkE g Φ A c env (.and2 a b) (.BoolOp .And [e, f] pos) := by
  intro ρ hρ Q E σ s I hh
  refine wpAny_And2 (wpAny_mono (ha ρ hρ _ E σ s I hh) (fun v s₁ h₁ => ?_) fun Ω Ω x => x)
  obtain ⟨x, σ₁, r, I₁, t, rfl, q0, q1⟩ := h₁
  cases r
  refine wpAny_truthy_bool ?_
  cases t
  · exact ⟨_, _, .bool _, I₁, q0 rfl⟩
  · refine wpAny_mono (hb ρ hρ _ E σ₁ s₁ I₁ (q1 rfl)) (fun v s₁ h₁ => ?_) fun Ω Ω x => x
    obtain ⟨x, σ₁, r, I₁, t, rfl, q⟩ := h₁
    cases r
    exact ⟨_, _, .bool _, I₁, q⟩
theorem okE_ite {t : T} {a b : X} {e f k : Expr} {pos} (ht : OkT g Φ A c env t e) (ha : OkE g Φ A c env a f) (hb : OkE g Φ A c env b k) : OkE g Φ A c env (.ite t a b) (.IfExp e f k pos) := by
  intro ρ hρ Q E σ s I hh
  refine wpAny_IfExp (wpAny_mono (ht ρ hρ _ E σ s I hh) (fun b s₁ h₁ => ?_) fun Ω Ω x => x)
  obtain ⟨σ₁, I₁, q1, q0⟩ := h₁
  cases b
  · exact hb ρ hρ Q E σ₁ s₁ I₁ (q0 rfl)
  · exact ha ρ hρ Q E σ₁ s₁ I₁ (q1 rfl)
set_option backward.match.sparseCases false in
noncomputable def plainArgs : List Expr → Bool
  | [] => true
  | .Starred .. :: _ => false
  | _ :: r => plainArgs r
theorem plain_cons {env : Env} {e : Expr} {r : List Expr} (h : plainArgs (e :: r) = true) : starEach (e :: r) env = (false, eval e env) :: starEach r env ∧ plainArgs r = true := by
  have K : (e' : Expr) → plainArgs r = true → ((false, eval e' env) :: starEach r env = (false, eval e' env) :: starEach r env ∧ plainArgs r = true) := fun Ω h => ⟨rfl, h⟩
  have F : ∀ {P : Prop}, false = true → P := fun h => (Bool.false_ne_true h).elim
  revert h
  cases e <;> first | exact K _ | exact F
theorem starEach_plain {env : Env} : ∀ {es : List Expr}, plainArgs es = true → starEach es env = es.map fun e => (false, eval e env)
  | [], _ => rfl
  | e :: r, h => (plain_cons h).1.trans (congrArg _ (starEach_plain (plain_cons (env := env) h).2))
theorem backTo_plain {env : Env} {pos : Pos} {es : List Expr} (h : plainArgs es = true) : backTo pos (starEach es env) = es.map fun e => (false, eval e env) := by
  rw [starEach_plain h]
  unfold backTo
  rw [List.map_map]
  exact List.map_congr_left fun Ω Ω => rfl
theorem okEs_nil : OkEs g Φ A c env .nil [] := fun Ω Ω Ω Ω σ Ω I h => Calls.spliced_nil ⟨[], σ, .nil, I, h⟩
theorem okEs_cons {x : X} {xs : XS} {e : Expr} {es : List Expr} (h : OkE g Φ A c env x e) (k : OkEs g Φ A c env xs es) : OkEs g Φ A c env (.cons x xs) (e :: es) := by
  intro ρ hρ Q E σ s I hh
  refine Calls.spliced_cons (wpAny_mono (h ρ hρ _ E σ s I hh) (fun v s₁ h₁ => ?_) fun Ω Ω x => x)
  obtain ⟨x, σ₁, r, I₁, q⟩ := h₁
  refine wpAny_mono (k ρ hρ _ E σ₁ s₁ I₁ q) (fun vs s₂ h₂ => ?_) fun Ω Ω x => x
  obtain ⟨xs, σ₂, rs, I₂, q₂⟩ := h₂
  exact ⟨_, σ₂, .cons r rs, I₂, q₂⟩
theorem okE_list {xs : XS} {es : List Expr} {pos} (h : OkEs g Φ A c env xs es) (hp : plainArgs es = true) : OkE g Φ A c env (.list xs) (.List es pos) := by
  intro ρ hρ Q E σ s I hh
  refine List_ ?_
  rw [backTo_plain hp]
  refine wpAny_mono (h ρ hρ _ E σ s I hh) (fun vs s₁ h₁ => ?_) fun Ω Ω x => x
  obtain ⟨xs, σ₁, rs, I₁, q1, q2⟩ := h₁
  exact op_list I₁ rs q1 q2
theorem okE_tup {xs : XS} {es : List Expr} {k pos} (h : OkEs g Φ A c env xs es) (hp : plainArgs es = true) : OkE g Φ A c env (.tup xs) (.Tuple es k pos) := by
  intro ρ hρ Q E σ s I hh
  refine Tuple_ ?_
  rw [backTo_plain hp]
  refine wpAny_mono (h ρ hρ _ E σ s I hh) (fun vs s₁ h₁ => ?_) fun Ω Ω x => x
  obtain ⟨xs, σ₁, rs, I₁, q1, q2⟩ := h₁
  exact op_tup I₁ rs q1 q2
theorem okE_dict0 (S : Stat g c.base) {pos} : OkE g Φ A c env .dict0 (.Dict [] [] pos) := fun ρ hρ Q E σ s I hh => op_dict0 S I hh
theorem nil_size {vs : List Value} {xs : List AV} (rs : VRs vs xs) : vs.toArray.size = 0 ↔ xs = [] := by
  rw [List.size_toArray, rs.length]; exact List.length_eq_zero_iff
theorem okE_eqNil (R : Rm A 0) {a : X} {e : Expr} {p pos} (h : OkE g Φ A c env a e) : OkE g Φ A c env (.u .eqNil a) (.Compare e [.Eq] [.List [] p] pos) := by
  intro ρ hρ Q E σ s I hh
  refine wpAny_Compare1 (wpAny_mono (h ρ hρ _ E σ s I hh) (fun v s₁ h₁ => ?_) fun Ω Ω x => x)
  obtain ⟨x, σ₁, r, I₁, l, xs, rfl, hl, q⟩ := h₁
  refine List_ (Calls.spliced_nil (wpAny_newList ?_))
  cases r
  have I₂ := I₁.push { cls := .type "list", data := .seq ([] : List Value).toArray }
  obtain ⟨vs, n, hL, rs⟩ := I₂.list hl
  have hN : Heap.IsList (s₁.heap.push { cls := .type "list", data := .seq ([] : List Value).toArray }) s₁.heap.objs.size ([] : List Value).toArray := ⟨_, Heap.get?_push_size _ rfl, rfl, _, rfl⟩
  have hu : A.units < cLine := Nat.lt_of_le_of_lt (show A.units ≤ 9000 by have := R.un; lia) (by decide)
  by_cases hx : xs = []
  · subst hx
    have z := (nil_size rs).mpr rfl
    have := SeqAt.RcAt.lists (A := A) (s := { s₁ with heap := s₁.heap.push { cls := .type "list", data := .seq ([] : List Value).toArray } }) (e := fun Ω => true) hL.isList hN (by rw [z]; rfl) hu fun j h1 => by rw [z] at h1; cases h1
    rw [z] at this
    exact EqBoolInt.of_rc this ⟨_, σ₁, .bool _, I₂, q⟩
  · have z : ¬ vs.toArray.size = 0 := fun w => hx ((nil_size rs).mp w)
    refine EqBoolInt.of_rc (SeqAt.RcAt.lists_lengths hL.isList hN (by simpa using z) hu) ⟨_, σ₁, .bool _, I₂, ?_⟩
    cases xs with
    | nil => exact absurd rfl hx
    | cons => exact q
theorem okE_neNil (R : Rm A 0) {a : X} {e : Expr} {p pos} (h : OkE g Φ A c env a e) : OkE g Φ A c env (.u .neNil a) (.Compare e [.NotEq] [.List [] p] pos) := by
  intro ρ hρ Q E σ s I hh
  refine wpAny_Compare1 (wpAny_mono (h ρ hρ _ E σ s I hh) (fun v s₁ h₁ => ?_) fun Ω Ω x => x)
  obtain ⟨x, σ₁, r, I₁, l, xs, rfl, hl, q⟩ := h₁
  refine List_ (Calls.spliced_nil (wpAny_newList ?_))
  cases r
  have I₂ := I₁.push { cls := .type "list", data := .seq ([] : List Value).toArray }
  obtain ⟨vs, n, hL, rs⟩ := I₂.list hl
  have hN : Heap.IsList (s₁.heap.push { cls := .type "list", data := .seq ([] : List Value).toArray }) s₁.heap.objs.size ([] : List Value).toArray := ⟨_, Heap.get?_push_size _ rfl, rfl, _, rfl⟩
  have hu : A.units < cLine := Nat.lt_of_le_of_lt (show A.units ≤ 9000 by have := R.un; lia) (by decide)
  by_cases hx : xs = []
  · subst hx
    have z := (nil_size rs).mpr rfl
    have := SeqAt.RcNeAt.lists (A := A) (s := { s₁ with heap := s₁.heap.push { cls := .type "list", data := .seq ([] : List Value).toArray } }) (e := fun Ω => true) hL.isList hN (by rw [z]; rfl) hu fun j h1 => by rw [z] at h1; cases h1
    rw [z] at this
    exact EqBoolInt.of_rcne this ⟨_, σ₁, .bool _, I₂, q⟩
  · have z : ¬ vs.toArray.size = 0 := fun w => hx ((nil_size rs).mp w)
    refine EqBoolInt.of_rcne (SeqAt.RcNeAt.lists_lengths hL.isList hN (by simpa using z) hu) ⟨_, σ₁, .bool _, I₂, ?_⟩
    cases xs with
    | nil => exact absurd rfl hx
    | cons => exact q
end
end
section
set_option tactic.hygienic false
open PySem PySem.W PySem.Calls PyProof.Rows
section
variable {g : Gb} {Φ : SemF} {A : Around} {c : Cx} {env : Env} {n : Nat} {σ : AH} {s : Shared} {E : Value → Shared → Prop} {Q : AV → AH → Prop} {K : Frag}
inductive GlobN (g : Gb) (env : Env) (x : Str) (v : Value) : Prop where
  | glob (hx : env.kindOf x = some .globalImplicit) (e : nsIn g.K mainGlobals x = some (some v)) (hd : (x == ("__debug__" : Str)) = false)
  | bltn (hx : env.kindOf x = some .globalImplicit) (e : nsIn g.K mainGlobals x = some none) (hv : bootBuiltins x = some v) (hn : x ≠ "__name__") (hd : (x == ("__debug__" : Str)) = false)
theorem name_glob (S : Stat g c.base) (EO : EnvOk c env) (I : Inv g c σ s) {x : Str} {v : Value} {pos} (h : GlobN g env x v) {Q : Value → Shared → Prop} (hq : Q v s) : wpAny (model g.prog g.w) A (eval (.Name x pos) env) Q E s := by
  have F := I.fr
  cases h with
  | glob hx e hd => exact Name_function_global EO.hk hx (loadGlobal_global (mg := g.mg) (EO.hg ▸ S.T.g.keeps F.keep) (mg_of S.X S.T.g e) hq) hd
  | bltn hx e hv hn hd => exact Name_function_global EO.hk hx (loadGlobal_builtin (mg := g.mg) (mb := g.mb) (EO.hg ▸ S.T.g.keeps F.keep) (mg_none_of S.X S.T.g e) (EO.hb ▸ S.T.b.keeps F.keep) ((S.T.builtins x hn).trans hv) hq) hd
noncomputable def Kept (g : Gb) (f : Value) : Prop := ∀ h, g.K.In h → ∃ k, (k = Keeper.frame ∨ k = Keeper.machine ∨ k = Keeper.boundFrame) ∧ Looks (model g.prog g.w) h (keeperOf f) k
theorem kept_K {f : Value} (h : keepIn g.K f = true) : Kept g f := keeps_K h
theorem kept_builtin {id : String} : Kept g (.builtin id) := fun h Ω => ⟨.machine, .inr (.inl rfl), Looks.of_pure rfl⟩
theorem kept_type {id : String} : Kept g (.type id) := fun h Ω => ⟨.machine, .inr (.inl rfl), Looks.of_pure rfl⟩
theorem callWith_g {f : Value} {first : List Value} {es : List Expr} {pos : Pos} {Q : Value → Shared → Prop} (hk : Kept g f) (hp : plainArgs es = true) (hX : g.K.In s.heap)
    (h : wpAny (model g.prog g.w) A (spliced (es.map fun e => (false, eval e env))) (fun vs s₁ => g.K.In s₁.heap ∧ wpAny (model g.prog g.w) A (call f (first ++ vs)) Q E s₁) E s) :
    wpAny (model g.prog g.w) A (callWith pos f first (backTo pos (starEach es env)) (backToKw pos (keywordEach [] env))) Q E s := by
  rw [backTo_plain hp]
  show wpAny _ _ (callWith pos f first _ []) _ _ _
  cases es with
  | nil =>
    refine callWith_of (P := g.K.In) rfl hk ?_
    unfold evalArgs
    show wpAny _ _ (spliced [] >>= _) _ _ _
    refine wpAny_bind (wpAny_mono h (fun vs s₁ h₁ => ?_) fun Ω Ω x => x)
    refine wpAny_bind (wpAny_pure ?_)
    refine wpAny_holding ?_
    exact wpAny_bind (wpAny_pure (wpAny_bind (wpAny_pure (wpAny_pure h₁))))
  | cons e r =>
    refine callWith_of (P := g.K.In) (by simp) hk (evalArgs_plain h)
theorem Inv.X (I : Inv g c σ s) (S : Stat g c.base) : g.K.In s.heap := S.X.keeps I.fr.keep
theorem okCall (S : Stat g c.base) {f : Value} {first : List Value} {xs : XS} {es : List Expr} {pos : Pos} {ρ : Loc} (hρ : LocR g c env ρ) {E : EX} {P : List AV → AH → Prop} {Q : Value → Shared → Prop}
    (hk : Kept g f) (hp : plainArgs es = true) (h : OkEs g Φ A c env xs es) (I : Inv g c σ s) (hh : evs Φ xs ρ P E σ)
    (k : ∀ vs ys σ s, VRs vs ys → Inv g c σ s → P ys σ → wpAny (model g.prog g.w) A (call f (first ++ vs)) Q (Th g A c E) s) :
    wpAny (model g.prog g.w) A (callWith pos f first (backTo pos (starEach es env)) (backToKw pos (keywordEach [] env))) Q (Th g A c E) s := by
  refine callWith_g hk hp (I.X S) (wpAny_mono (h ρ hρ _ E σ s I hh) (fun vs s₁ h₁ => ?_) fun Ω Ω x => x)
  obtain ⟨ys, σ₁, rs, I₁, q⟩ := h₁
  exact ⟨I₁.X S, k vs ys σ₁ s₁ rs I₁ q⟩
theorem call_fn (H : CallOk g n Φ) (O : AOk g A c n) {f : Nat} {vals : List Value} {vs : List AV} {Q : AV → AH → Prop} {E : EX} (h : Φ f vs Q E σ) (r : VRs vals vs) (I : Inv g c σ s) :
    wpAny (model g.prog g.w) A (call (.ref (g.fa f)) vals) (PV g c Q) (Th g A c E) s :=
  wpAny_call (H f vs Q E σ h A c (by have := O.rm.dp; lia) (by have := O.rm.un; lia) O.hA O.st O.fr vals s r I)
theorem okE_call (H : CallOk g n Φ) (O : AOk g A c n) (EO : EnvOk c env) {f : Nat} {xs : XS} {es : List Expr} {id : Str} {p pos} (hg : GlobN g env id (.ref (g.fa f))) (hk : keepIn g.K (.ref (g.fa f)) = true) (hp : plainArgs es = true)
    (h : OkEs g Φ A c env xs es) : OkE g Φ A c env (.call f xs) (.Call (.Name id p) es [] pos) := by
  intro ρ hρ Q E σ s I hh
  refine wpAny_Call_Name_kw (name_glob O.st EO I hg ?_)
  exact okCall O.st hρ (kept_K hk) hp h I hh fun vs ys σ s r I q => call_fn H O q r I
theorem under_type (C : Addr) (vals : List Value) : (A.under (.builtin "type.__call__" ⟨.ref C :: vals, []⟩)).handled = A.handled ∧ (A.under (.builtin "type.__call__" ⟨.ref C :: vals, []⟩)).depth = A.depth + 1 ∧
    (A.under (.builtin "type.__call__" ⟨.ref C :: vals, []⟩)).frames = A.frames ∧ (A.under (.builtin "type.__call__" ⟨.ref C :: vals, []⟩)).units = A.units + 1 := ⟨rfl, rfl, rfl, rfl⟩
theorem okE_cls (H : CallOk g n Φ) (O : AOk g A c n) (EO : EnvOk c env) {C f : Nat} {xs : XS} {es : List Expr} {id : Str} {p pos} (hg : GlobN g env id (.ref C)) (hk : keepIn g.K (.ref C) = true) (hp : plainArgs es = true) (hC : C ∈ g.cs)
    (hm : makesIn g.K C = true) (hi : findIn g.K (.ref C) "__init__" = some (some (.ref (g.fa f)))) (hf : typeIn g.K (.ref (g.fa f)) = some (.type "function"))
    (h : OkEs g Φ A c env xs es) : OkE g Φ A c env (.cls C f xs) (.Call (.Name id p) es [] pos) := by
  intro ρ hρ Q E σ s I hh
  refine wpAny_Call_Name_kw (name_glob O.st EO I hg ?_)
  refine okCall O.st hρ (kept_K hk) hp h I hh fun vs ys σ s r I q => ?_
  refine wpAny_call ?_
  obtain ⟨led, F, N, k⟩ := I.newInst hC
  refine make_K F N (I.X O.st) hm hi hf fun x dx h' F' N' lt lt2 => ?_
  obtain ⟨hn, I'⟩ := k x dx h' s.toks F' N' lt lt2
  obtain ⟨u1, u2, u3, u4⟩ := under_type (A := A) C vs
  have := H f (.ref x :: ys) _ _ _ (q x hn) (A.under (.builtin "type.__call__" ⟨.ref C :: vs, []⟩)) c (by rw [u2]; have := O.rm.dp; lia) (by rw [u4]; have := O.rm.un; lia) (u1.trans O.hA) O.st (by rw [u3]; exact O.fr) (.ref x :: vs) _ (.cons (.ref x) r) I'
  refine codeAny_mono this fun r s' hr => ?_
  rcases r with e | (_ | _ | _ | v)
  · exact (Th.no hr).elim
  · exact hr.elim
  · exact hr.elim
  · exact hr.elim
  · obtain ⟨z, σ', rz, I'', rfl, hq⟩ := hr
    cases rz
    exact ⟨rfl, _, σ', .ref x, I'', hq⟩
theorem meth_rule {o : Expr} {name : Str} {apos pos : Pos} {es : List Expr} {Q : Value → Shared → Prop} {E : Value → Shared → Prop} (hb : abOk o = true) (hp : plainArgs es = true) (hl : (apos.endLine == pos.line) = true) (hn : es.length < 30)
    (h : wpAny (model g.prog g.w) A (eval o env) (fun ov s₁ => ∀ pl, wpAny (model g.prog g.w) A (getMethod ov name pl) (fun fx s₂ =>
      wpAny (model g.prog g.w) A (callWith pos fx.1 fx.2 (backTo pos (starEach es env)) (backToKw pos (keywordEach [] env))) Q E s₂) E s₁) E s) :
    wpAny (model g.prog g.w) A (eval (.Call (.Attribute o name apos) es [] pos) env) Q E s := by
  rw [arm_eval_Call, abOk_of hb]
  have few : methodCallForm (es.length + ([] : List Keyword).length) (backTo pos (starEach es env)) (backToKw pos (keywordEach [] env)) = true := by
    have a : (es.map fun e => (false, eval e env)).all (fun x => !x.1) = true := List.all_eq_true.mpr fun x hx => by
      obtain ⟨e, _, rfl⟩ := List.mem_map.mp hx
      rfl
    rw [backTo_plain hp]
    show ((es.map fun e => (false, eval e env)).all (fun x => !x.1) && true && decide (es.length + 0 + 0 < 30)) = true
    rw [a]
    exact decide_eq_true hn
  refine wpAny_bind (wpAny_mono h (fun ov s₁ h₁ => wpAny_bind (wpAny_standAt ?_)) fun Ω Ω x => x)
  unfold methodCall calleeOf methodCallPos
  rw [few]
  refine wpAny_bind (wpAny_holding (wpAny_mono (h₁ _) (fun fx s₂ h₂ => ?_) fun Ω Ω x => x))
  obtain ⟨f, first⟩ := fx
  rw [if_pos (by rw [hl]; rfl)]
  exact wpAny_bind (wpAny_pure h₂)
theorem FR.miss {nm : Nm} {nf nN : Nat} (hN : nf ≤ nN) (inj : ∀ i j, i < nN → j < nN → nm i = nm j → i = j) {es fs} (h : FR nm nf es fs) {m : Nat} (hm : m < nN) (e : getF fs m = none) : getL (nm m) es = some none := by
  have a : es.any (·.refKey) = false := by
    clear e
    induction h with
    | nil => rfl
    | cons _ _ _ ih => rw [List.any_cons, ih]; rfl
  have b : es.find? (·.key.isStr (nm m)) = none := by
    clear a
    induction h with
    | nil => rfl
    | @cons hh t v f x es fs l r q ih =>
      unfold getF at e
      by_cases z : f = m
      · simp [z] at e
      · simp [z] at e
        have ne : ¬ nm f = nm m := fun q => z (inj _ _ (Nat.lt_of_lt_of_le l hN) hm q)
        have e1 : (⟨hh, .str (nm f) t, v⟩ : DictEntry).key.isStr (nm m) = false := by simpa [Value.isStr] using ne
        rw [List.find?_cons, e1]
        exact ih e
  unfold getL
  rw [b, a]
  rfl
theorem okE_mcall (H : CallOk g n Φ) (O : AOk g A c n) {x : X} {e : Expr} {C f m : Nat} {xs : XS} {es : List Expr} {apos pos : Pos} (ho : OkE g Φ A c env x e) (hb : abOk e = true) (hp : plainArgs es = true) (hl : (apos.endLine == pos.line) = true) (hn : es.length < 30)
    (hm : m < g.nN) (hfi : findIn g.K (.ref C) (g.nm m) = some (some (.ref (g.fa f)))) (hfn : isFn g.K (.ref (g.fa f)) = true) (hk : keepIn g.K (.ref (g.fa f)) = true)
    (h : OkEs g Φ A c env xs es) : OkE g Φ A c env (.mcall x C f m xs) (.Call (.Attribute e (g.nm m) apos) es [] pos) := by
  intro ρ hρ Q E σ s I hh
  refine meth_rule hb hp hl hn (wpAny_mono (ho ρ hρ _ E σ s I hh) (fun v s₁ h₁ pl => ?_) fun Ω Ω x => x)
  obtain ⟨y, σ₁, r, I₁, a, fs, rfl, ha, hg, q⟩ := h₁
  cases r
  obtain ⟨dx, ens, k, IA, hC, rf⟩ := I₁.inst ha
  refine method_inst I₁.fr O.st.X IA (O.st.pg C hC _) hfi hfn (rf.miss O.st.nN O.st.injN hm hg) ?_
  exact okCall O.st hρ (kept_K hk) hp h I₁ q fun vs ys σ s r I q => call_fn H O q (.cons (.ref a) r) I
theorem okE_icall (H : CallOk g n Φ) (O : AOk g A c n) (EO : EnvOk c env) {C f : Nat} {xs : XS} {es : List Expr} {id : Str} {p apos pos : Pos} (hg : GlobN g env id (.ref C)) (hp : plainArgs es = true) (hl : (apos.endLine == pos.line) = true) (hn : es.length < 30)
    (h1 : specialIn g.K (.ref C) "__getattribute__" = some (some (.builtin "type.__getattribute__"))) (h2 : typeIn g.K (.ref C) = some (.type "type")) (h3 : readsIn g.K C (.type "type") = true) (h4 : findCls g.K (.ref C) (.type "type") "__init__" = some (.val (.ref (g.fa f))))
    (hk : keepIn g.K (.ref (g.fa f)) = true) (h : OkEs g Φ A c env xs es) : OkE g Φ A c env (.icall C f xs) (.Call (.Attribute (.Name id p) "__init__" apos) es [] pos) := by
  intro ρ hρ Q E σ s I hh
  refine meth_rule rfl hp hl hn (name_glob O.st EO I hg fun pl => ?_)
  refine method_of_cls I.fr O.st.X h1 (cls_val I.fr O.st.X h2 h3 h4 rfl ?_)
  exact okCall O.st hρ (kept_K hk) hp h (I.toks _) hh fun vs ys σ s r I q => call_fn H O q r I
theorem listObj {l : Nat} {xs : List AV} (I : Inv g c σ s) (h : σ l = some (.list xs)) : s.TypeIs (.ref l) "list" ∧ ∀ a, Value.ref l = .ref a → ∃ o, s.heap.get? a = some o ∧ o.dict = none := by
  obtain ⟨vs, n, hL, _⟩ := I.list h
  exact ⟨hL.isList.typeIs, fun a e => by cases e; exact ⟨_, hL, rfl⟩⟩
theorem okE_pop {x : X} {e : Expr} {apos pos : Pos} (ho : OkE g Φ A c env x e) (hb : abOk e = true) (hl : (apos.endLine == pos.line) = true) : OkE g Φ A c env (.pop x) (.Call (.Attribute e "pop" apos) [] [] pos) := by
  intro ρ hρ Q E σ s I hh
  refine meth_rule hb rfl hl (by decide) (wpAny_mono (ho ρ hρ _ E σ s I hh) (fun v s₁ h₁ pl => ?_) fun Ω Ω x => x)
  obtain ⟨y, σ₁, r, I₁, l, xs, u, rfl, hx, hlim, q⟩ := h₁
  cases r
  obtain ⟨hT, hd⟩ := listObj I₁ hx
  exact getMethod_builtin hT F.plainAttrs_list F.slot_list_pop F.type_list_pop hd (op_pop I₁ hx hlim q)
noncomputable def m1Name : M1 → Str
  | .append => "append"
  | .popAt => "pop"
  | .extend => "extend"
  | .count => "count"
  | .dpop => "pop"
theorem okE_m1 (R : Rm A 0) {o : M1} (no : o ≠ .dpop) {x y : X} {e f : Expr} {apos pos : Pos} (ho : OkE g Φ A c env x e) (hb : abOk e = true) (hl : (apos.endLine == pos.line) = true) (hp : plainArgs [f] = true) (hf : OkE g Φ A c env y f) :
    OkE g Φ A c env (.m1 o x y) (.Call (.Attribute e (m1Name o) apos) [f] [] pos) := by
  intro ρ hρ Q E σ s I hh
  refine meth_rule hb hp hl (by show 1 < 30; decide) (wpAny_mono (ho ρ hρ _ E σ s I hh) (fun v s₁ h₁ pl => ?_) fun Ω Ω x => x)
  obtain ⟨t, σ₁, r, I₁, pre, q⟩ := h₁
  have q' := hf ρ hρ _ E σ₁ s₁ I₁ q
  cases o
  case dpop => exact absurd rfl no
  all_goals
    obtain ⟨l, xs, rfl, hx⟩ := pre
    cases r
    obtain ⟨hT, hd⟩ := listObj I₁ hx
  · refine getMethod_builtin hT F.plainAttrs_list F.slot_list_append F.type_list_append hd ?_
    rw [backTo_plain hp]; exact op_append rfl q'
  · refine getMethod_builtin hT F.plainAttrs_list F.slot_list_pop F.type_list_pop hd ?_
    rw [backTo_plain hp]; exact op_popAt rfl q'
  · refine getMethod_builtin hT F.plainAttrs_list F.slot_list_extend F.type_list_extend hd ?_
    rw [backTo_plain hp]; exact op_extend rfl q'
  · refine getMethod_builtin hT F.plainAttrs_list F.slot_list_count F.type_list_count hd ?_
    rw [backTo_plain hp]; exact op_count R rfl q'
theorem okE_dpop (S : Stat g c.base) {x y : X} {e f : Expr} {k p} {apos pos : Pos} (ho : OkE g Φ A c env x e) (hb : abOk e = true) (hl : (apos.endLine == pos.line) = true) (hp : plainArgs [f, .Constant .none k p] = true) (hf : OkE g Φ A c env y f) :
    OkE g Φ A c env (.m1 .dpop x y) (.Call (.Attribute e "pop" apos) [f, .Constant .none k p] [] pos) := by
  intro ρ hρ Q E σ s I hh
  refine meth_rule hb hp hl (by show 2 < 30; decide) (wpAny_mono (ho ρ hρ _ E σ s I hh) (fun v s₁ h₁ pl => ?_) fun Ω Ω x => x)
  obtain ⟨t, σ₁, r, I₁, ⟨l, ds, rfl, hx⟩, q⟩ := h₁
  have q' := hf ρ hρ _ E σ₁ s₁ I₁ q
  cases r
  obtain ⟨kvs, hd, _⟩ := I₁.dict hx
  obtain ⟨o, es, ep, ho', ex, _⟩ := id hd
  refine getMethod_builtin hd.typeIs F.plainAttrs_dict F.slot_dict_pop F.type_dict_pop (fun a e => by cases e; exact ⟨o, ho', ex.2.1⟩) ?_
  rw [backTo_plain hp]
  exact op_dpop S rfl q' fun s' R h => wpAny_Constant_none h
theorem callWith_1 {f : Value} {e : Expr} {pos : Pos} {Q : Value → Shared → Prop} (hk : Kept g f) (hp : plainArgs [e] = true) (hX : g.K.In s.heap)
    (h : wpAny (model g.prog g.w) A (eval e env) (fun u s₁ => g.K.In s₁.heap ∧ wpAny (model g.prog g.w) A (call f [u]) Q E s₁) E s) :
    wpAny (model g.prog g.w) A (callWith pos f [] (backTo pos (starEach [e] env)) (backToKw pos (keywordEach [] env))) Q E s :=
  callWith_g hk hp hX (Calls.spliced_cons (wpAny_mono h (fun Ω Ω h₁ => Calls.spliced_nil h₁) fun Ω Ω x => x))
theorem callWith_2 {f : Value} {e₁ e₂ : Expr} {pos : Pos} {Q : Value → Shared → Prop} (hk : Kept g f) (hp : plainArgs [e₁, e₂] = true) (hX : g.K.In s.heap)
    (h : wpAny (model g.prog g.w) A (eval e₁ env) (fun u s₁ => wpAny (model g.prog g.w) A (eval e₂ env) (fun v s₂ => g.K.In s₂.heap ∧ wpAny (model g.prog g.w) A (call f [u, v]) Q E s₂) E s₁) E s) :
    wpAny (model g.prog g.w) A (callWith pos f [] (backTo pos (starEach [e₁, e₂] env)) (backToKw pos (keywordEach [] env))) Q E s :=
  callWith_g hk hp hX (Calls.spliced_cons (wpAny_mono h (fun Ω Ω h₁ => Calls.spliced_cons (wpAny_mono h₁ (fun Ω Ω h₂ => Calls.spliced_nil h₂) fun Ω Ω x => x)) fun Ω Ω x => x))
theorem okE_len (S : Stat g c.base) (EO : EnvOk c env) {x : X} {e : Expr} {id : Str} {p pos : Pos} (hg : GlobN g env id (.builtin "len")) (hp : plainArgs [e] = true) (h : OkE g Φ A c env x e) : OkE g Φ A c env (.u .len x) (.Call (.Name id p) [e] [] pos) := by
  intro ρ hρ Q E σ s I hh
  refine wpAny_Call_Name_kw (name_glob S EO I hg (callWith_1 kept_builtin hp (I.X S) (wpAny_mono (h ρ hρ _ E σ s I hh) (fun v s₁ h₁ => ?_) fun Ω Ω x => x)))
  obtain ⟨y, σ₁, r, I₁, q⟩ := h₁
  exact ⟨I₁.X S, op_len I₁ r q⟩
theorem okE_sorted (S : Stat g c.base) (hA : A.handled = none) (EO : EnvOk c env) {x : X} {e : Expr} {id : Str} {p pos : Pos} (hg : GlobN g env id (.builtin "sorted")) (hp : plainArgs [e] = true) (h : OkE g Φ A c env x e) : OkE g Φ A c env (.u .sorted x) (.Call (.Name id p) [e] [] pos) := by
  intro ρ hρ Q E σ s I hh
  refine wpAny_Call_Name_kw (name_glob S EO I hg (callWith_1 kept_builtin hp (I.X S) (wpAny_mono (h ρ hρ _ E σ s I hh) (fun v s₁ h₁ => ?_) fun Ω Ω x => x)))
  obtain ⟨y, σ₁, r, I₁, q⟩ := h₁
  exact ⟨I₁.X S, op_sorted I₁ hA r q⟩
theorem okE_toL (S : Stat g c.base) (EO : EnvOk c env) {x : X} {e : Expr} {id : Str} {p pos : Pos} (hg : GlobN g env id (.type "list")) (hp : plainArgs [e] = true) (h : OkE g Φ A c env x e) : OkE g Φ A c env (.u .toL x) (.Call (.Name id p) [e] [] pos) := by
  intro ρ hρ Q E σ s I hh
  refine wpAny_Call_Name_kw (name_glob S EO I hg (callWith_1 kept_type hp (I.X S) (wpAny_mono (h ρ hρ _ E σ s I hh) (fun v s₁ h₁ => ?_) fun Ω Ω x => x)))
  obtain ⟨y, σ₁, r, I₁, q⟩ := h₁
  exact ⟨I₁.X S, op_toL I₁ r q⟩
theorem okE_isI (S : Stat g c.base) (EO : EnvOk c env) {x : X} {e : Expr} {C : Nat} {id id' : Str} {p p' pos : Pos} (hg : GlobN g env id (.builtin "isinstance")) (hg' : GlobN g env id' (.ref C)) (hC : C ∈ g.ics) (hp : plainArgs [e, .Name id' p'] = true) (h : OkE g Φ A c env x e) :
    OkE g Φ A c env (.u (.isI C) x) (.Call (.Name id p) [e, .Name id' p'] [] pos) := by
  intro ρ hρ Q E σ s I hh
  refine wpAny_Call_Name_kw (name_glob S EO I hg (callWith_2 kept_builtin hp (I.X S) (wpAny_mono (h ρ hρ _ E σ s I hh) (fun v s₁ h₁ => ?_) fun Ω Ω x => x)))
  obtain ⟨y, σ₁, r, I₁, q⟩ := h₁
  exact name_glob S EO I₁ hg' ⟨I₁.X S, op_isI S I₁ r hC q⟩
theorem okE_min (S : Stat g c.base) (hA : A.handled = none) (EO : EnvOk c env) {x y : X} {e f : Expr} {id : Str} {p pos : Pos} (hg : GlobN g env id (.builtin "min")) (hp : plainArgs [e, f] = true) (h : OkE g Φ A c env x e) (h' : OkE g Φ A c env y f) :
    OkE g Φ A c env (.b .min x y) (.Call (.Name id p) [e, f] [] pos) := by
  intro ρ hρ Q E σ s I hh
  exact wpAny_Call_Name_kw (name_glob S EO I hg (callWith_2 kept_builtin hp (I.X S) (two h h' hρ I hh fun v u x y σ s r r' I q => ⟨I.X S, op_min hA I r r' q⟩)))
theorem okE_max (S : Stat g c.base) (hA : A.handled = none) (EO : EnvOk c env) {x y : X} {e f : Expr} {id : Str} {p pos : Pos} (hg : GlobN g env id (.builtin "max")) (hp : plainArgs [e, f] = true) (h : OkE g Φ A c env x e) (h' : OkE g Φ A c env y f) :
    OkE g Φ A c env (.b .max x y) (.Call (.Name id p) [e, f] [] pos) := by
  intro ρ hρ Q E σ s I hh
  exact wpAny_Call_Name_kw (name_glob S EO I hg (callWith_2 kept_builtin hp (I.X S) (two h h' hρ I hh fun v u x y σ s r r' I q => ⟨I.X S, op_max hA I r r' q⟩)))
end
end
section
set_option tactic.hygienic false
open PySem PySem.W PySem.Calls PyProof.Rows
structure Nx (c c' : Cx) : Prop where
  base : c'.base = c.base
  L : c'.L = c.L
  s₀ : c'.s₀ = c.s₀
  keep : c'.keep = c.keep
  keys : c'.cells.map (·.1) = c.cells.map (·.1)
theorem Nx.rfl {c : Cx} : Nx c c := ⟨_root_.rfl, _root_.rfl, _root_.rfl, _root_.rfl, _root_.rfl⟩
theorem Nx.trans {c c' c'' : Cx} (a : Nx c c') (b : Nx c' c'') : Nx c c'' := ⟨b.base.trans a.base, b.L.trans a.L, b.s₀.trans a.s₀, b.keep.trans a.keep, b.keys.trans a.keys⟩
structure CellOk (c : Cx) (env : Env) : Prop where
  own : ∀ x a, env.kindOf x = some .cell → env.cells.lookup x = some a → a ∈ c.cells.map (·.1) ∧ ∀ q ∈ c.keep, q.1 ≠ a
  data : ∀ q ∈ c.cells, ∃ v, q.2.data = .cell v
  inj : ∀ x y a, env.cells.lookup x = some a → env.cells.lookup y = some a → x = y
  nd : (c.cells.map (·.1)).Nodup
  there : ∀ x a, env.cells.lookup x = some a → ∃ q ∈ c.all, q.1 = a
section
variable {g : Gb} {Φ : SemF} {A : Around} {c : Cx} {env : Env} {n : Nat} {σ : AH} {s : Shared} {E : Value → Shared → Prop}
theorem AOk.nx {c' : Cx} (O : AOk g A c n) (N : Nx c c') : AOk g A c' n := by
  refine ⟨O.hA, O.rm, N.base ▸ O.st, ?_⟩
  obtain ⟨env, outer, h, fr⟩ := O.fr
  refine ⟨env, outer, h, fun e he => ?_⟩
  obtain ⟨h1, L, h2, h3, h4⟩ := fr e he
  refine ⟨h1, L, h2, N.base ▸ h3, ?_⟩
  rw [N.L, N.keep]; exact h4
theorem EnvOk.nx {c' : Cx} (O : EnvOk c env) (N : Nx c c') : EnvOk c' env := ⟨O.hk, O.hl.trans N.L.symm, O.hg, O.hb⟩
theorem storeL (EO : EnvOk c env) (S : Stat g c.base) {ρ : Loc} (hρ : LocR g c env ρ) (I : Inv g c σ s) {y : Nat} {v : Value} {x : AV} (r : VR v x) (hy : y < g.nN) (hk : env.kindOf (g.nm y) = some .local) {Q : Unit → Shared → Prop}
    (h : ∀ m' s', LocR g { c with m := m' } env (ρ.put y x) → Inv g { c with m := m' } σ s' → Q () s') : wpAny (model g.prog g.w) A (storeName env (g.nm y) v) Q E s := by
  obtain ⟨D, led, H, W, K⟩ := I
  refine wpAny_storeName_local hk (EO.hl ▸ W.fr.ns) (fun h' hn hs => ?_) (by rw [EO.hk]; rfl)
  rw [EO.hl] at hn hs
  refine h (fun z => if z = g.nm y then some v else c.m z) _ (fun z w hz => ?_) ⟨D, led, H, ⟨W.fr.set hn hs, W.news.set hs, W.gens, W.drawn, W.os⟩, K⟩
  unfold Loc.put at hz
  split at hz
  · rename_i e; subst e; cases hz
    exact ⟨hy, v, r, .local hk (by simp)⟩
  · rename_i ne
    obtain ⟨hzN, u, ru, a1⟩ := hρ z w hz
    refine ⟨hzN, u, ru, ?_⟩
    have nn : g.nm z ≠ g.nm y := fun e => ne (S.injN _ _ hzN hy e)
    cases a1 with
    | «local» k1 k2 => exact .local k1 (by simpa [nn] using k2)
    | cell a o k1 k2 k3 k4 => exact .cell a o k1 k2 k3 k4
    | free a o k1 k2 k3 k4 => exact .free a o k1 k2 k3 k4
theorem storeOk (EO : EnvOk c env) (CO : CellOk c env) (S : Stat g c.base) {ρ : Loc} (hρ : LocR g c env ρ) (I : Inv g c σ s) {y : Nat} {v : Value} {x : AV} (r : VR v x) (hy : y < g.nN)
    (hk : env.kindOf (g.nm y) = some .local ∨ ∃ a, env.kindOf (g.nm y) = some .cell ∧ env.cells.lookup (g.nm y) = some a) {Q : Unit → Shared → Prop}
    (h : ∀ c' s', Nx c c' → CellOk c' env → LocR g c' env (ρ.put y x) → Inv g c' σ s' → Q () s') : wpAny (model g.prog g.w) A (storeName env (g.nm y) v) Q E s := by
  rcases hk with hk | ⟨a, hk, hl⟩
  · exact storeL EO S hρ I r hy hk fun m' s' hρ' I' => h { c with m := m' } s' ⟨rfl, rfl, rfl, rfl, rfl⟩ ⟨CO.own, CO.data, CO.inj, CO.nd, CO.there⟩ hρ' I'
  · obtain ⟨D, led, H, W, K⟩ := I
    obtain ⟨ha, hnk⟩ := CO.own _ a hk hl
    obtain ⟨⟨a', o⟩, ho, rfl⟩ := List.mem_map.mp ha
    obtain ⟨v₀, hd⟩ := CO.data _ ho
    obtain ⟨⟨o', m, kr⟩, no⟩ := K (a', o) (List.mem_append_left _ ho)
    refine wpAny_storeName_cell EO.hk hk hl (v₀ := v₀) ⟨o', (W.news _ m).1, kr.data.trans hd⟩ fun h' hv hs => ?_
    obtain ⟨on, hon, hdn⟩ := hv
    refine h { c with cells := puto c.cells a' on } { s with heap := h' } ⟨rfl, rfl, rfl, rfl, puto_keys ..⟩ ⟨?_, fun q hq => ?_, CO.inj, by rw [puto_keys]; exact CO.nd, fun x b k1 => ?_⟩ (fun z w hz => ?_) ⟨D, puto led a' on, ?_, ?_, fun q hq => ?_⟩
    · intro x b k1 k2; rw [puto_keys]; exact CO.own x b k1 k2
    · rcases of_puto hq with rfl | ⟨q1, q2⟩
      · exact ⟨_, hdn⟩
      · exact CO.data q q1
    · obtain ⟨q, hq, rfl⟩ := CO.there x b k1
      rcases List.mem_append.mp hq with hq | hq
      · have : q.1 ∈ (puto c.cells a' on).map (·.1) := by rw [puto_keys]; exact List.mem_map_of_mem hq
        obtain ⟨q', hq', e'⟩ := List.mem_map.mp this
        exact ⟨q', List.mem_append_left _ hq', e'⟩
      · exact ⟨q, List.mem_append_right _ hq, rfl⟩
    · unfold Loc.put at hz
      split at hz
      · rename_i e; subst e; cases hz
        exact ⟨hy, v, r, .cell a' on hk hl (List.mem_append_left _ (mem_puto_self ho)) hdn⟩
      · rename_i ne
        obtain ⟨hzN, u, ru, a1⟩ := hρ z w hz
        refine ⟨hzN, u, ru, ?_⟩
        have nn : g.nm z ≠ g.nm y := fun e => ne (S.injN _ _ hzN hy e)
        have there : ∀ {b ob}, (b, ob) ∈ c.all → env.cells.lookup (g.nm z) = some b → (b, ob) ∈ puto c.cells a' on ++ c.keep := by
          intro b ob hb hl'
          have : b ≠ a' := fun e => nn (CO.inj _ _ _ (e ▸ hl') hl)
          rcases List.mem_append.mp hb with hb | hb
          · exact List.mem_append_left _ (mem_puto hb this)
          · exact List.mem_append_right _ hb
        cases a1 with
        | «local» k1 k2 => exact .local k1 k2
        | cell b ob k1 k2 k3 k4 => exact .cell b ob k1 k2 (there k3 k2) k4
        | free b ob k1 k2 k3 k4 => exact .free b ob k1 k2 (there k3 k2) k4
    · -- the ledger: nobody's object
      have ne : ∀ b ob, σ b = some ob → b ≠ a' := fun b ob e q => no (.inl (by rw [← q, e]; simp))
      have neD : ∀ b C fs, σ b = some (.inst C fs) → D b ≠ a' := fun b C fs e q => no (.inr ⟨b, C, fs, e, q⟩)
      refine ⟨by rw [puto_keys]; exact H.nd, fun b ob e => ?_, H.inj, H.sep⟩
      have z := H.obj b ob e
      have nb := ne b ob e
      cases ob with
      | list => obtain ⟨vs, n, m, r⟩ := z; exact ⟨vs, n, mem_puto m nb, r⟩
      | tup => obtain ⟨x, vs, n, m, hc, hd, r⟩ := z; exact ⟨x, vs, n, mem_puto m nb, hc, hd, r⟩
      | inst C fs => obtain ⟨m, es, n, m2, hC, r⟩ := z; exact ⟨mem_puto m nb, es, n, mem_puto m2 (neD _ _ _ e), hC, r⟩
      | dict ds => obtain ⟨x, m, nn, r⟩ := z; exact ⟨x, mem_puto m nb, nn, r⟩
    · have W' := W.set (tk := s.toks) m hs.extBut hon
      exact ⟨W'.fr, W'.news, W'.gens, W'.drawn, W'.os⟩
    · rcases List.mem_append.mp hq with hq | hq
      · rcases of_puto hq with rfl | ⟨q1, q2⟩
        · exact ⟨⟨on, mem_puto_self m, .rfl⟩, no⟩
        · obtain ⟨⟨o2, z, kr2⟩, no2⟩ := K q (List.mem_append_left _ q1)
          exact ⟨⟨o2, mem_puto z q2, kr2⟩, no2⟩
      · obtain ⟨⟨o2, z, kr2⟩, no2⟩ := K q (List.mem_append_right _ hq)
        exact ⟨⟨o2, mem_puto z (hnk q hq), kr2⟩, no2⟩
end
end
section
set_option tactic.hygienic false
open PySem PySem.W PySem.Calls PyProof.Rows
inductive Raised (g : Gb) (A : Around) (c : Cx) (E : EX) (v : Value) (s : Shared) : Prop
  | mk (e : Addr) (σ : AH) (D : Nat → Nat) (led : List (Addr × Obj)) (oe : Obj) (vs : Array Value) (a0 : Value) (hv : v = .ref e) (hE : E σ) (H : Led g σ D led) (W : At c led s) (K : Kp c σ D led) (no : ∀ o, (e, o) ∉ led) (nb : c.base.get? e = none)
    (he : s.heap.get? e = some oe) (hc : oe.cls = .ref g.die) (hd : oe.data = .fields vs) (h1 : vs[1]? = some .none) (h0 : vs[0]? = some a0)
inductive St (g : Gb) (c : Cx) (env : Env) (P : Loc → AH → Prop) (s : Shared) : Prop | mk (c' : Cx) (ρ : Loc) (σ : AH) (N : Nx c c') (C : CellOk c' env) (R : LocR g c' env ρ) (I : Inv g c' σ s) (q : P ρ σ)
inductive StV (g : Gb) (c : Cx) (Q : AV → AH → Prop) (v : Value) (s : Shared) : Prop | mk (c' : Cx) (N : Nx c c') (h : PV g c' Q v s)
inductive StT (g : Gb) (A : Around) (c : Cx) (env : Env) (E : Loc → EX) (v : Value) (s : Shared) : Prop | mk (c' : Cx) (ρ : Loc) (N : Nx c c') (C : CellOk c' env) (R : LocR g c' env ρ) (T : Th g A c' (E ρ) v s)
inductive StR (g : Gb) (A : Around) (c : Cx) (E : EX) (v : Value) (s : Shared) : Prop | mk (c' : Cx) (N : Nx c c') (R : Raised g A c' E v s)
noncomputable def PF (g : Gb) (c : Cx) (env : Env) (k : Ks) (fl : Flow) (s : Shared) : Prop := match fl with
  | .next => St g c env k.next s
  | .brk => St g c env k.brk s
  | .cont => False
  | .ret v => StV g c k.ret v s
noncomputable def TF (g : Gb) (A : Around) (c : Cx) (env : Env) (k : Ks) (v : Value) (s : Shared) : Prop :=
  StT g A c env k.exc v s ∨ StR g A c k.raise v s
noncomputable def OkS (g : Gb) (Φ : SemF) (A : Around) (n : Nat) (env : Env) (st : S) (stmt : Stmt) : Prop :=
  ∀ c, AOk g A c n → EnvOk c env → CellOk c env → ∀ ρ k σ s, LocR g c env ρ → Inv g c σ s → ex Φ st ρ k σ → wpAny (model g.prog g.w) A (exec stmt env) (PF g c env k) (TF g A c env k) s
noncomputable def OkSS (g : Gb) (Φ : SemF) (A : Around) (n : Nat) (env : Env) (st : SS) (stmts : List Stmt) : Prop :=
  ∀ c, AOk g A c n → EnvOk c env → CellOk c env → ∀ ρ k σ s, LocR g c env ρ → Inv g c σ s → exs Φ st ρ k σ → wpAny (model g.prog g.w) A (execs stmts env) (PF g c env k) (TF g A c env k) s
noncomputable def AllE (g : Gb) (Φ : SemF) (A : Around) (n : Nat) (env : Env) (x : X) (e : Expr) : Prop := ∀ c, AOk g A c n → EnvOk c env → OkE g Φ A c env x e
noncomputable def AllT (g : Gb) (Φ : SemF) (A : Around) (n : Nat) (env : Env) (x : T) (e : Expr) : Prop := ∀ c, AOk g A c n → EnvOk c env → OkT g Φ A c env x e
noncomputable def AllP (g : Gb) (Φ : SemF) (A : Around) (n : Nat) (env : Env) (x : X) (e : Option Expr) : Prop := ∀ c, AOk g A c n → EnvOk c env → OkP g Φ A c env x e
noncomputable def AllEs (g : Gb) (Φ : SemF) (A : Around) (n : Nat) (env : Env) (x : XS) (e : List Expr) : Prop := ∀ c, AOk g A c n → EnvOk c env → OkEs g Φ A c env x e
set_option backward.match.sparseCases false in
noncomputable def noComp : Expr → Bool
  | .ListComp .. => false
  | .SetComp .. => false
  | .DictComp .. => false
  | _ => true
theorem swaps_of {e : Expr} (h : noComp e = true) (t : Option Expr) (l : Nat) (env : Env) : swapsWith e t l env = pure false := by
  have K : true = true → (pure false : Sem Bool) = pure false := fun Ω => rfl
  have F : ∀ {P : Prop}, false = true → P := fun h => (Bool.false_ne_true h).elim
  revert h
  cases e <;> first | exact K | exact F
noncomputable def isHere (env : Env) (x : Str) : Prop := env.kindOf x = some .local ∨ ∃ a, env.kindOf x = some .cell ∧ env.cells.lookup x = some a
section
variable {g : Gb} {Φ : SemF} {A : Around} {env : Env} {n : Nat}
theorem St.here {c : Cx} {ρ : Loc} {σ : AH} {s : Shared} {P : Loc → AH → Prop} (CO : CellOk c env) (hρ : LocR g c env ρ) (I : Inv g c σ s) (h : P ρ σ) : St g c env P s := ⟨c, ρ, σ, .rfl, CO, hρ, I, h⟩
theorem TF.th {c : Cx} {ρ : Loc} {k : Ks} {v : Value} {s : Shared} (CO : CellOk c env) (hρ : LocR g c env ρ) (h : Th g A c (k.exc ρ) v s) : TF g A c env k v s := .inl ⟨c, ρ, .rfl, CO, hρ, h⟩
theorem okS_assign {x : Nat} {y : X} {e : Expr} {p pos} (h : AllE g Φ A n env y e) (hx : x < g.nN) (hk : isHere env (g.nm x))
    (hs : noComp e = true ∨ env.kindOf (g.nm x) = some .cell) : OkS g Φ A n env (.assign x y) (.Assign [.Name (g.nm x) p] e pos) := by
  intro c O EO CO ρ k σ s hρ I hh
  refine wpAny_Assign_Name (wpAny_mono (h c O EO ρ hρ _ _ σ s I hh) (fun v s₁ h₁ => ?_) fun Ω Ω t => .th CO hρ t) ?_
  · obtain ⟨y, σ₁, r, I₁, q⟩ := h₁
    exact storeOk EO CO O.st hρ I₁ r hx hk fun c' s' N CO' hρ' I' => ⟨c', _, _, N, CO', hρ', I', q⟩
  · rcases hs with hs | hs
    · exact swaps_of hs _ _ _
    · cases e <;> first | rfl | skip
      all_goals
        show (pure (env.blockKind == .function && env.kindOf (g.nm x) == some .local && _ && _) : Sem Bool) = pure false
        rw [hs]
        congr 1
        rw [show ((some NameKind.cell == some NameKind.local) : Bool) = false from rfl, Bool.and_false, Bool.false_and, Bool.false_and]
theorem okS_setA {x y : X} {f : Nat} {e v : Expr} {p pos} (hv : AllE g Φ A n env y v) (he : AllE g Φ A n env x e) (hf : f < g.nf) (hs : swapsWith v (some (.Attribute e (g.nm f) p)) pos.line env = pure false) :
    OkS g Φ A n env (.setA x f y) (.Assign [.Attribute e (g.nm f) p] v pos) := by
  intro c O EO CO ρ k σ s hρ I hh
  refine plainObj_wpAny_Assign_Attribute (wpAny_mono (hv c O EO ρ hρ _ _ σ s I hh) (fun v s₁ h₁ => ?_) fun Ω Ω t => .th CO hρ t) hs
  obtain ⟨u, σ₁, r, I₁, q⟩ := h₁
  refine wpAny_mono (he c O EO ρ hρ _ _ σ₁ s₁ I₁ q) (fun t s₂ h₂ => ?_) fun Ω Ω t => .th CO hρ t
  obtain ⟨y, σ₂, r₂, I₂, a, C, fs, rfl, ha, hz, q₂⟩ := h₂
  cases r₂
  refine wpAny_mono (op_setA O.st I₂ r ha hf hz q₂) (fun Ω s₃ h₃ => ?_) fun Ω Ω t => t
  obtain ⟨σ₃, I₃, q₃⟩ := h₃
  exact .here CO hρ I₃ q₃
theorem okS_setI {x y z : X} {e v i : Expr} {p pos} (hv : AllE g Φ A n env y v) (he : AllE g Φ A n env x e) (hi : AllE g Φ A n env z i) (hs : swapsWith v (some (.Subscript e i p)) pos.line env = pure false) :
    OkS g Φ A n env (.setI x z y) (.Assign [.Subscript e i p] v pos) := by
  intro c O EO CO ρ k σ s hρ I hh
  refine wpAny_Assign_Subscript (wpAny_mono (hv c O EO ρ hρ _ _ σ s I hh) (fun v s₁ h₁ => ?_) fun Ω Ω t => .th CO hρ t) hs
  obtain ⟨u, σ₁, r, I₁, q⟩ := h₁
  refine wpAny_mono (he c O EO ρ hρ _ _ σ₁ s₁ I₁ q) (fun t s₂ h₂ => ?_) fun Ω Ω t => .th CO hρ t
  obtain ⟨y, σ₂, r₂, I₂, q₂⟩ := h₂
  refine wpAny_mono (hi c O EO ρ hρ _ _ σ₂ s₂ I₂ q₂) (fun t s₃ h₃ => ?_) fun Ω Ω t => .th CO hρ t
  obtain ⟨w, σ₃, r₃, I₃, l, j, xs, p, rfl, rfl, hl, hz, hp, q₃⟩ := h₃
  cases r₂; cases r₃
  refine wpAny_mono (op_setI I₃ r hl hz hp q₃) (fun Ω s₄ h₄ => ?_) fun Ω Ω t => t
  obtain ⟨σ₄, I₄, q₄⟩ := h₄
  exact .here CO hρ I₄ q₄
theorem okS_setD {x y z : X} {e v i : Expr} {p pos} (hv : AllE g Φ A n env y v) (he : AllE g Φ A n env x e) (hi : AllE g Φ A n env z i) (hs : swapsWith v (some (.Subscript e i p)) pos.line env = pure false) :
    OkS g Φ A n env (.setD x z y) (.Assign [.Subscript e i p] v pos) := by
  intro c O EO CO ρ k σ s hρ I hh
  refine wpAny_Assign_Subscript (wpAny_mono (hv c O EO ρ hρ _ _ σ s I hh) (fun v s₁ h₁ => ?_) fun Ω Ω t => .th CO hρ t) hs
  obtain ⟨u, σ₁, r, I₁, q⟩ := h₁
  refine wpAny_mono (he c O EO ρ hρ _ _ σ₁ s₁ I₁ q) (fun t s₂ h₂ => ?_) fun Ω Ω t => .th CO hρ t
  obtain ⟨y, σ₂, r₂, I₂, q₂⟩ := h₂
  refine wpAny_mono (hi c O EO ρ hρ _ _ σ₂ s₂ I₂ q₂) (fun t s₃ h₃ => ?_) fun Ω Ω t => .th CO hρ t
  obtain ⟨w, σ₃, r₃, I₃, l, j, es, rfl, rfl, hl, hz, q₃⟩ := h₃
  cases r₂; cases r₃
  refine wpAny_mono (op_setD I₃ r hl hz q₃) (fun Ω s₄ h₄ => ?_) fun Ω Ω t => t
  obtain ⟨σ₄, I₄, q₄⟩ := h₄
  exact .here CO hρ I₄ q₄
theorem okS_setS {x y lo hi : X} {e v : Expr} {l u : Option Expr} {p p' pos} (hv : AllE g Φ A n env y v) (he : AllE g Φ A n env x e) (hl : AllP g Φ A n env lo l) (hu : AllP g Φ A n env hi u) (hs : swapsWith v (some (.Subscript e (.Slice l u none p') p)) pos.line env = pure false) :
    OkS g Φ A n env (.setS x lo hi y) (.Assign [.Subscript e (.Slice l u none p') p] v pos) := by
  intro c O EO CO ρ k σ s hρ I hh
  refine wpAny_Assign_Subscript (wpAny_mono (hv c O EO ρ hρ _ _ σ s I hh) (fun v s₁ h₁ => ?_) fun Ω Ω t => .th CO hρ t) hs
  obtain ⟨uu, σ₁, r, I₁, q⟩ := h₁
  refine wpAny_mono (he c O EO ρ hρ _ _ σ₁ s₁ I₁ q) (fun t s₂ h₂ => ?_) fun Ω Ω t => .th CO hρ t
  obtain ⟨y, σ₂, r₂, I₂, q₂⟩ := h₂
  refine wpAny_Slice (wpAny_mono (hl c O EO ρ hρ _ _ σ₂ s₂ I₂ q₂) (fun vl s₃ h₃ => ?_) fun Ω Ω t => .th CO hρ t)
  obtain ⟨al, σ₃, r₃, I₃, q₃⟩ := h₃
  refine wpAny_mono (hu c O EO ρ hρ _ _ σ₃ s₃ I₃ q₃) (fun vu s₄ h₄ => ?_) fun Ω Ω t => .th CO hρ t
  obtain ⟨au, σ₄, r₄, I₄, l, m, xs, ys, i, j, rfl, rfl, ne, hl, hm, hz, hi, hj, q₄⟩ := h₄
  cases r; cases r₂
  show wpAny _ _ (pure Value.none) _ _ _
  refine wpAny_pure ?_
  have I₅ := I₄.push { cls := .type "slice", data := .fields #[vl, vu, .none] }
  refine wpAny_mono (op_setS I₅ hl hm ne hz r₃ r₄ hi hj ⟨_, Heap.get?_push_size _ rfl, rfl, rfl⟩ q₄) (fun Ω s₆ h₆ => ?_) fun Ω Ω t => t
  obtain ⟨σ₆, I₆, q₆⟩ := h₆
  exact .here CO hρ I₆ q₆
theorem okS_augN {x : Nat} {op : AOp} {y : X} {e : Expr} {p pos} (h : AllE g Φ A n env y e) (op2 : op = .add ∨ op = .sub) (hx : x < g.nN) (hk : env.kindOf (g.nm x) = some .local) : OkS g Φ A n env (.augN x op y) (.AugAssign (.Name (g.nm x) p) (binOf op) e pos) := by
  intro c O EO CO ρ k σ s hρ I hh
  obtain ⟨i, hi, hh⟩ := hh
  obtain ⟨_, w, r, a⟩ := hρ x _ hi
  have hm : c.m (g.nm x) = some w := by
    cases a with
    | «local» _ k2 => exact k2
    | cell _ _ k1 => rw [hk] at k1; cases k1
    | free _ _ k1 => rw [hk] at k1; cases k1
  refine wpAny_AugAssign_Name (wpAny_loadName_local EO.hk hk (EO.hl ▸ I.fr.ns) hm (wpAny_mono (h c O EO ρ hρ _ _ σ s I hh) (fun v s₁ h₁ => ?_) fun Ω Ω t => .th CO hρ t))
  obtain ⟨y, σ₁, r₁, I₁, j, rfl, ok, q⟩ := h₁
  refine wpAny_mono (op_iar I₁ r r₁ op2 (Q := fun z σ => z = .int (op.on i j) ∧ σ = σ₁) ⟨i, j, rfl, rfl, ok, rfl, rfl⟩) (fun v s₂ h₂ => ?_) fun Ω Ω t => t
  obtain ⟨_, _, r₂, I₂, rfl, rfl⟩ := h₂
  exact storeOk EO CO O.st hρ I₂ r₂ hx (.inl hk) fun c' s' N CO' hρ' I' => ⟨c', _, _, N, CO', hρ', I', q⟩
theorem okS_augA {x y : X} {f : Nat} {op : AOp} {e v : Expr} {p pos} (he : AllE g Φ A n env x e) (hv : AllE g Φ A n env y v) (op2 : op = .add ∨ op = .sub) (hf : f < g.nf) : OkS g Φ A n env (.augA x f op y) (.AugAssign (.Attribute e (g.nm f) p) (binOf op) v pos) := by
  intro c O EO CO ρ k σ s hρ I hh
  refine wpAny_AugAssign_AttributeAny (wpAny_mono (he c O EO ρ hρ _ _ σ s I hh) (fun t s₁ h₁ => ?_) fun Ω Ω t => .th CO hρ t)
  obtain ⟨t, σ₁, r, I₁, a, C, fs, i, rfl, ha, hi, q⟩ := h₁
  refine wpAny_mono (op_attr O.st I₁ r hf (Q := fun z σ => z = .int i ∧ σ = σ₁) ⟨a, C, fs, _, rfl, ha, hi, rfl, rfl⟩) (fun old s₂ h₂ => ?_) fun Ω Ω t => t
  obtain ⟨_, _, r₂, I₂, rfl, rfl⟩ := h₂
  refine wpAny_mono (hv c O EO ρ hρ _ _ _ s₂ I₂ q) (fun u s₃ h₃ => ?_) fun Ω Ω t => .th CO hρ t
  obtain ⟨_, σ₃, r₃, I₃, fs', j, ha', hz, rfl, ok, q₃⟩ := h₃
  refine wpAny_mono (op_iar I₃ r₂ r₃ op2 (Q := fun z σ => z = .int (op.on i j) ∧ σ = σ₃) ⟨i, j, rfl, rfl, ok, rfl, rfl⟩) (fun v s₄ h₄ => ?_) fun Ω Ω t => t
  obtain ⟨_, _, r₄, I₄, rfl, rfl⟩ := h₄
  cases r
  refine wpAny_mono (op_setA O.st I₄ r₄ ha' hf hz q₃) (fun Ω s₅ h₅ => ?_) fun Ω Ω t => t
  obtain ⟨σ₅, I₅, q₅⟩ := h₅
  exact .here CO hρ I₅ q₅
theorem okS_expr {y : X} {e : Expr} {pos} (h : AllE g Φ A n env y e) (hs : noComp e = true) : OkS g Φ A n env (.expr y) (.Expr e pos) := by
  intro c O EO CO ρ k σ s hρ I hh
  refine wpAny_Expr_any (wpAny_mono (h c O EO ρ hρ _ _ σ s I hh) (fun v s₁ h₁ => ?_) fun Ω Ω t => .th CO hρ t) (by unfold interactive; rw [EO.hk]; rfl) (swaps_of hs _ _ _)
  obtain ⟨y, σ₁, r, I₁, q⟩ := h₁
  exact .here CO hρ I₁ q
theorem okS_ite {t : T} {a b : SS} {e : Expr} {xs ys : List Stmt} {pos} (ht : AllT g Φ A n env t e) (ha : OkSS g Φ A n env a xs) (hb : OkSS g Φ A n env b ys) : OkS g Φ A n env (.ite t a b) (.If e xs ys pos) := by
  intro c O EO CO ρ k σ s hρ I hh
  refine wpAny_If (wpAny_mono (ht c O EO ρ hρ _ _ σ s I hh) (fun v s₁ h₁ => ?_) fun Ω Ω t => .th CO hρ t)
  obtain ⟨σ₁, I₁, q1, q0⟩ := h₁
  cases v
  · exact hb c O EO CO ρ k σ₁ s₁ hρ I₁ (q0 rfl)
  · exact ha c O EO CO ρ k σ₁ s₁ hρ I₁ (q1 rfl)
theorem okS_ret {y : X} {e : Expr} {pos} (h : AllE g Φ A n env y e) : OkS g Φ A n env (.ret y) (.Return (some e) pos) := by
  intro c O EO CO ρ k σ s hρ I hh
  exact wpAny_Return_some (wpAny_mono (h c O EO ρ hρ _ _ σ s I hh) (fun v s₁ h₁ => ⟨c, .rfl, h₁⟩) fun Ω Ω t => .th CO hρ t)
theorem okS_ret0 {pos} : OkS g Φ A n env .ret0 (.Return none pos) := fun c O EO CO ρ k σ s hρ I hh => wpAny_Return_none ⟨c, .rfl, _, σ, .none, I, hh⟩
theorem okS_brk {pos} : OkS g Φ A n env .brk (.Break pos) := fun c O EO CO ρ k σ s hρ I hh => wpAny_Break (.here CO hρ I hh)
theorem okSS_nil : OkSS g Φ A n env .nil [] := fun c O EO CO ρ k σ s hρ I hh => wpAny_execs_nil (.here CO hρ I hh)
theorem PV.nx {c c' : Cx} {Q : AV → AH → Prop} {v : Value} {s : Shared} {fl : Flow} {k k' : Ks} (N : Nx c c') (h : PF g c' env k fl s) (hn : k'.next = k.next) (hb : k'.brk = k.brk) (hr : k'.ret = k.ret) : PF g c env k' fl s := by
  cases fl with
  | next => obtain ⟨d, ρ, σ, N', a, b, i, r⟩ := h; exact ⟨d, ρ, σ, N.trans N', a, b, i, hn ▸ r⟩
  | brk => obtain ⟨d, ρ, σ, N', a, b, i, r⟩ := h; exact ⟨d, ρ, σ, N.trans N', a, b, i, hb ▸ r⟩
  | cont => exact h
  | ret v => obtain ⟨d, N', r⟩ := h; exact ⟨d, N.trans N', hr ▸ r⟩
theorem TF.nx {c c' : Cx} {v : Value} {s : Shared} {k k' : Ks} (N : Nx c c') (h : TF g A c' env k v s) (he : k'.exc = k.exc) (hr : k'.raise = k.raise) : TF g A c env k' v s := by
  rcases h with ⟨d, ρ, N', a, b, r⟩ | ⟨d, N', r⟩
  · exact .inl ⟨d, ρ, N.trans N', a, b, he ▸ r⟩
  · exact .inr ⟨d, N.trans N', hr ▸ r⟩
theorem okSS_cons {a : S} {b : SS} {x : Stmt} {xs : List Stmt} (h : OkS g Φ A n env a x) (k : OkSS g Φ A n env b xs) : OkSS g Φ A n env (.cons a b) (x :: xs) := by
  intro c O EO CO ρ kk σ s hρ I hh
  refine wpAny_execs_cons (wpAny_mono (h c O EO CO ρ _ σ s hρ I hh) (fun fl s₁ h₁ => ?_) fun Ω Ω t => t)
  cases fl with
  | next =>
    obtain ⟨c', ρ', σ', N, CO', hρ', I', q⟩ := h₁
    exact wpAny_mono (k c' (O.nx N) (EO.nx N) CO' ρ' kk σ' s₁ hρ' I' q) (fun fl s₂ h₂ => PV.nx (Q := fun Ω Ω => True) (v := .none) N h₂ rfl rfl rfl) fun Ω Ω t => t.nx N rfl rfl
  | brk => exact h₁
  | cont => exact h₁
  | ret v => exact h₁
end
end
section
set_option tactic.hygienic false
open PySem PySem.W PySem.Calls PyProof.Rows
noncomputable abbrev Cx.kp (c : Cx) (k : List (Addr × Obj)) : Cx := { c with keep := k }
section
variable {g : Gb} {c : Cx} {σ : AH} {s : Shared}
theorem mem_all {c : Cx} {k : List (Addr × Obj)} {q : Addr × Obj} : q ∈ (c.kp k).all ↔ q ∈ c.cells ∨ q ∈ k := by
  show q ∈ c.cells ++ k ↔ _
  rw [List.mem_append]
theorem Inv.newK (I : Inv g c σ s) {a : Addr} {o : Obj} {h' : Heap} {tk : Nat} (f : s.heap.get? a = none) (k : ∀ b ob, s.heap.get? b = some ob → h'.get? b = some ob) (e : h'.get? a = some o) :
    Inv g (c.kp ((a, o) :: c.keep)) σ { s with heap := h', toks := tk } ∧ (∀ q ∈ c.all, q.1 ≠ a) ∧ σ a = none := by
  obtain ⟨D, led, H, A, K⟩ := I
  have no : ∀ o, (a, o) ∉ led := fun o => none_of_ledger A f
  obtain ⟨h0, hL⟩ := A.fresh f
  have nk : ∀ q ∈ c.all, q.1 ≠ a := fun q hq e => by
    obtain ⟨⟨o', z, _⟩, _⟩ := K q hq
    exact no o' (e ▸ z)
  refine ⟨⟨D, (a, o) :: led, H.more no, ?_, fun q hq => ?_⟩, nk, H.none_of no⟩
  · have := (A.keeps (tk := tk) k).cons e h0 hL
    exact ⟨this.fr, this.news, this.gens, this.drawn, this.os⟩
  · rcases mem_all.mp hq with hq | hq
    · obtain ⟨⟨o', z, kr⟩, w⟩ := K q (List.mem_append_left _ hq); exact ⟨⟨o', .tail _ z, kr⟩, w⟩
    · rcases List.mem_cons.mp hq with rfl | hq
      · refine ⟨⟨o, .head _, .rfl⟩, ?_⟩
        rintro (z | ⟨b, C, fs, e, q⟩)
        · exact z (H.none_of no)
        · obtain ⟨_, es, n, m2, _⟩ := H.obj b _ e
          exact no _ (q ▸ m2)
      · obtain ⟨⟨o', z, kr⟩, w⟩ := K q (List.mem_append_right _ hq); exact ⟨⟨o', .tail _ z, kr⟩, w⟩
theorem Led.notOwn {D : Nat → Nat} {led : List (Addr × Obj)} (H : Led g σ D led) {a : Addr} (no : ¬ Own σ D a) {b : Nat} {ob : AO} {led' : List (Addr × Obj)} (e : σ b = some ob) (hs : ∀ q ∈ led, q.1 ≠ a → q ∈ led') : InLed g D led' b ob := by
  have nb : b ≠ a := fun q => no (.inl (by rw [← q, e]; simp))
  have z := H.obj b ob e
  cases ob with
  | list => obtain ⟨vs, n, m, r⟩ := z; exact ⟨vs, n, hs _ m nb, r⟩
  | tup => obtain ⟨x, vs, n, m, hc, hd, r⟩ := z; exact ⟨x, vs, n, hs _ m nb, hc, hd, r⟩
  | inst C fs => obtain ⟨m, es, n, m2, hC, r⟩ := z; exact ⟨hs _ m nb, es, n, hs _ m2 fun q => no (.inr ⟨b, C, fs, e, q⟩), hC, r⟩
  | dict ds => obtain ⟨x, m, nn, r⟩ := z; exact ⟨x, hs _ m nb, nn, r⟩
theorem Inv.setK {a : Addr} {o o' : Obj} {k : List (Addr × Obj)} (I : Inv g (c.kp ((a, o) :: k)) σ s) (hd : ∀ q ∈ c.cells ++ k, q.1 ≠ a) {h' : Heap} {tk : Nat} (x : Heap.ExtBut a s.heap h') (e : h'.get? a = some o') :
    Inv g (c.kp ((a, o') :: k)) σ { s with heap := h', toks := tk } := by
  obtain ⟨D, led, H, A, K⟩ := I
  obtain ⟨⟨o1, m, kr⟩, no⟩ := K (a, o) (mem_all.mpr (.inr (.head _)))
  have W := A.set (tk := tk) m x e
  refine ⟨D, puto led a o', ⟨by rw [puto_keys]; exact H.nd, fun b ob e => H.notOwn no e fun q hq ne => mem_puto hq ne, H.inj, H.sep⟩, ⟨W.fr, W.news, W.gens, W.drawn, W.os⟩, fun q hq => ?_⟩
  have old : ∀ q, q ∈ c.cells ++ k → Kq σ D (puto led a o') q := fun q hq => by
    obtain ⟨⟨o2, z, kr2⟩, w⟩ := K q (mem_all.mpr ((List.mem_append.mp hq).imp id fun h => .tail _ h))
    exact ⟨⟨o2, mem_puto z (hd q hq), kr2⟩, w⟩
  rcases mem_all.mp hq with hq | hq
  · exact old q (List.mem_append_left _ hq)
  · rcases List.mem_cons.mp hq with rfl | hq
    · exact ⟨⟨o', mem_puto_self m, .rfl⟩, no⟩
    · exact old q (List.mem_append_right _ hq)
theorem Inv.dropK {a : Addr} {o : Obj} {k : List (Addr × Obj)} (I : Inv g (c.kp ((a, o) :: k)) σ s) (hd : ∀ q ∈ c.cells ++ k, q.1 ≠ a) {h' : Heap} {tk : Nat} (x : Heap.ExtBut a s.heap h') :
    Inv g (c.kp k) σ { s with heap := h', toks := tk } := by
  obtain ⟨D, led, H, A, K⟩ := I
  obtain ⟨⟨o1, m, kr⟩, no⟩ := K (a, o) (mem_all.mpr (.inr (.head _)))
  have z := A.news _ m
  have hb : ∀ b o, c.base.get? b = some o → b ≠ a := fun b o e q => by rw [q] at e; rw [z.2.2] at e; cases e
  have mf : ∀ q, q ∈ led → q.1 ≠ a → q ∈ led.filter (fun q => !decide (q.1 = a)) := fun q hq ne => List.mem_filter.mpr ⟨hq, by simpa using ne⟩
  have fm : ∀ q, q ∈ led.filter (fun q => !decide (q.1 = a)) → q ∈ led ∧ q.1 ≠ a := fun q hq => ⟨(List.mem_filter.mp hq).1, by simpa using (List.mem_filter.mp hq).2⟩
  refine ⟨D, led.filter (fun q => !decide (q.1 = a)), ⟨(List.filter_sublist.map _).nodup H.nd, fun b ob e => H.notOwn no e fun q hq ne => mf q hq ne, H.inj, H.sep⟩, ⟨⟨A.fr.ns.extBut x (Ne.symm z.2.1), fun b o e => x b o (hb b o e) (A.fr.keep b o e), A.fr.above⟩, fun q hq => ?_, A.gens, A.drawn, A.os⟩, fun q hq => ?_⟩
  · obtain ⟨q1, q2⟩ := fm q hq
    exact ⟨x _ _ q2 (A.news q q1).1, (A.news q q1).2⟩
  · have hq' : q ∈ c.cells ++ k := List.mem_append.mpr (mem_all.mp hq)
    obtain ⟨⟨o2, z, kr2⟩, w⟩ := K q (mem_all.mpr ((mem_all.mp hq).imp id fun h => .tail _ h))
    exact ⟨⟨o2, mf _ z (hd q hq'), kr2⟩, w⟩
end
inductive Src where
  | lst (l : Nat) (xs : List AV)
  | rng (lo : Int) (n : Nat)
noncomputable def Src.items : Src → List AV
  | .lst _ xs => xs
  | .rng lo n => (List.range n).map fun (k : Nat) => AV.int (lo + (k : Int))
noncomputable def Src.ok (S : Src) (σ : AH) : Prop := match S with
  | .lst l xs => σ l = some (.list xs)
  | .rng _ _ => True
noncomputable def Src.obj (S : Src) (i : Nat) (o : Obj) : Prop := match S with
  | .lst l _ => o.cls = .type "list_iterator" ∧ o.data = .fields #[.ref l, .int i 0]
  | .rng lo n => o = { cls := .type "range_iterator", dict := none, data := .fields #[rawInt (lo + i), rawInt (n - i), rawInt 1], slots := #[] }
section
variable {g : Gb} {c : Cx} {σ : AH} {s : Shared} {A : Around} {E : Value → Shared → Prop}
theorem kept_at {a : Addr} {o : Obj} {k : List (Addr × Obj)} (I : Inv g (c.kp ((a, o) :: k)) σ s) (hf : ∀ es n, o.data ≠ .dict es n) : s.heap.get? a = some o := by
  obtain ⟨D, led, H, A, K⟩ := I
  obtain ⟨⟨o1, m, kr⟩, no⟩ := K (a, o) (mem_all.mpr (.inr (.head _)))
  rcases kr with rfl | ⟨es, n, _, e, _⟩
  · exact (A.news _ m).1
  · exact absurd e (hf es n)
theorem next_item {S : Src} {i : Nat} {o : Obj} {a : Addr} {k : List (Addr × Obj)} {x : AV} (I : Inv g (c.kp ((a, o) :: k)) σ s) (hd : ∀ q ∈ c.cells ++ k, q.1 ≠ a) (ho : S.obj i o) (hS : S.ok σ) (hx : S.items[i]? = some x)
    {Q : Option Value → Shared → Prop} (h : ∀ v o' s', VR v x → S.obj (i + 1) o' → Inv g (c.kp ((a, o') :: k)) σ s' → Q (some v) s') : wpAny (model g.prog g.w) A (pyNext (.ref a)) Q E s := by
  cases S with
  | lst l xs =>
    obtain ⟨h1, h2⟩ := ho
    have at_ := kept_at I fun es n e => by rw [h2] at e; cases e
    obtain ⟨vs, n, hL, r⟩ := I.list hS
    obtain ⟨v, hv, rv⟩ := r.at hx
    refine wpAny_pyNext_list_item ⟨o, at_, h1, h2⟩ hL.isList hv fun h' hit hs => ?_
    obtain ⟨o', e', c1, c2⟩ := hit
    exact h v o' _ rv ⟨c1, c2⟩ (I.setK (tk := s.toks) hd hs.extBut e')
  | rng lo n =>
    have ho' : o = _ := ho
    have at_ := kept_at I fun es n e => by rw [ho'] at e; cases e
    rw [ho'] at at_
    simp only [Src.items, List.getElem?_map] at hx
    have hlt : i < n := by
      by_cases q : i < n
      · exact q
      · rw [List.getElem?_eq_none (by simp; lia)] at hx; cases hx
    rw [List.getElem?_eq_getElem (by simpa using hlt)] at hx
    simp at hx
    subst hx
    refine wpAny_pyNext_range_item at_ (by lia) fun h' hit hs => ?_
    refine h _ _ _ (.int _ _) ?_ (I.setK (tk := s.toks + 1) hd hs.extBut hit)
    show _ = _
    have e1 : (lo + (i : Int) + 1) = lo + ((i + 1 : Nat) : Int) := by push_cast; lia
    have e2 : ((n : Int) - i - 1) = n - ((i + 1 : Nat) : Int) := by push_cast; lia
    rw [e1, e2]
theorem next_end (hA : A.handled = none) {S : Src} {i : Nat} {o : Obj} {a : Addr} {k : List (Addr × Obj)} (I : Inv g (c.kp ((a, o) :: k)) σ s) (hd : ∀ q ∈ c.cells ++ k, q.1 ≠ a) (ho : S.obj i o) (hS : S.ok σ) (hx : S.items[i]? = none)
    {Q : Option Value → Shared → Prop} (h : ∀ s', Inv g (c.kp k) σ s' → Q none s') : wpAny (model g.prog g.w) A (pyNext (.ref a)) Q E s := by
  cases S with
  | lst l xs =>
    obtain ⟨h1, h2⟩ := ho
    have at_ := kept_at I fun es n e => by rw [h2] at e; cases e
    obtain ⟨vs, n, hL, r⟩ := I.list hS
    refine wpAny_pyNext_list_end hA ⟨o, at_, h1, h2⟩ hL.isList ?_ fun h' hs => h _ (I.dropK (tk := s.toks) hd hs)
    have : xs.length ≤ i := by simpa [Src.items] using hx
    have := r.length
    simp; lia
  | rng lo n =>
    have ho' : o = _ := ho
    have at_ := kept_at I fun es n e => by rw [ho'] at e; cases e
    rw [ho'] at at_
    have hle : n ≤ i := by simpa [Src.items] using hx
    exact wpAny_pyNext_range_end hA at_ (by lia) fun h' hs => h _ (I.dropK (tk := s.toks) hd hs)
theorem iter_list (I : Inv g c σ s) {l : Nat} {xs : List AV} (hl : σ l = some (.list xs)) {Q : Value → Shared → Prop} (h : ∀ a o s', (Src.lst l xs).obj 0 o → (∀ q ∈ c.all, q.1 ≠ a) → σ a = none → Inv g (c.kp ((a, o) :: c.keep)) σ s' → Q (.ref a) s') :
    wpAny (model g.prog g.w) A (pyIter (.ref l)) Q E s := by
  obtain ⟨vs, n, hL, r⟩ := I.list hl
  refine wpAny_pyIter_list hL.isList ?_
  obtain ⟨I', nk, na⟩ := I.newK (tk := s.toks) (get_size s.heap) (fun b o e => Heap.get?_push_of_some _ e) (Heap.get?_push_size (o := { cls := .type "list_iterator", data := .fields #[.ref l, .int 0 0] }) s.heap rfl)
  exact h _ _ _ ⟨rfl, rfl⟩ nk na I'
end
end
section
set_option tactic.hygienic false
open PySem PySem.W PySem.Calls
structure Over (bm : List Value) : Prop where
  ex : bm.contains (.type "Exception") = true
  at' : bm.contains (.type "AttributeError") = false
  nm : bm.contains (.type "NameError") = false
section
variable {M : Model} {prog : Program} {w : World} {A : Around} {E : Value → Shared → Prop} {R : Result → Shared → Prop} {h : Heap} {gs : Array GenState} {d : Drawn} {tk : Nat} {os : OsState}
variable {n q : Str} {C N : Addr} {bs bm : List Value} {hd : Bool} {sn : List Str} {sub : List Value} {ab : Bool} {col : Option Bool} {dd : Option Addr} {k0 k1 k2 k3 k5 : Option Value} {newId initId : String} {bB : List Value}
theorem die_check (F : ExcBaseFacts "Exception" newId initId bB) (O : Over bm) {rest : List Value} {Q : Unit → Shared → Prop} (hC : h.get? C = some (excClassObj n q C N bs bm hd sn sub ab col dd k0 k1 k2 k3 k5 newId))
    (hq : Q () ⟨h, gs, d, tk, os⟩) : wpAny M A (checkBuiltinCall newId ⟨.ref C :: rest, []⟩) Q E ⟨h, gs, d, tk, os⟩ := by
  have c : (Value.ref C :: bm).contains (.type "Exception") = true := by rw [List.contains_cons, O.ex, Bool.or_true]
  have := F.noStar
  simp only [checkBuiltinCall, F.newKind, F.newSplit, F.newRow]
  repeat (first | refine wpAny_loadPart_at hC ?_ | (refine wpAny_isSubtype_exc hC ?_; rw [c]) | refine wpAny_staticBase_exc hC ?_ | refine wpAny_madeBy_exc hC ?_ | simp only [bne_self_eq_false, Bool.false_eq_true, if_false] | wp_step)
  exact hq
theorem die_new (F : ExcBaseFacts "Exception" newId initId bB) (O : Over bm) {rest : List Value} (hC : h.get? C = some (excClassObj n q C N bs bm hd sn sub ab col dd k0 k1 k2 k3 k5 newId))
    (hq : R (.ok (.ret (.ref (h.objs.size + 1)))) ⟨(h.push { cls := .type "tuple", data := .seq rest.toArray }).push
      { cls := .ref C, data := .fields #[.ref h.objs.size, .none, .none, .none, .bool false, .none] }, gs, d, tk, os⟩) (hr : rest.length ≤ sizeLine) :
    codeAny (model prog w) A (.builtin newId ⟨.ref C :: rest, []⟩) R ⟨h, gs, d, tk, os⟩ := by
  have := F.ends
  have c : (Value.ref C :: bm).contains (.type "Exception") = true := by rw [List.contains_cons, O.ex, Bool.or_true]
  have ca : (Value.ref C :: bm).contains (.type "AttributeError") = false := by rw [List.contains_cons, O.at']; rfl
  have cn : (Value.ref C :: bm).contains (.type "NameError") = false := by rw [List.contains_cons, O.nm]; rfl
  refine codeAny_builtinAt F.entry ?_
  unfold Builtin.«BaseException.__new__»
  refine wpAt_bind ?_
  show wpAt _ _ _ (stack >>= _) _ _ _
  refine wpAt_bind (wpAt_stack fun p below => wpAt_of_wpAny ?_)
  wp_walk
  refine wpAt_of_wpAny ?_
  rw [F.owner]
  repeat (first | with_reducible refine wpAny_madeHere_exc F.canon hC ?_ | with_reducible refine wpAny_loadPart_at hC ?_ | (with_reducible refine wpAny_isSubtype_exc hC ?_; first | rw [c] | rw [ca] | rw [cn]) | wp_step)
  show R _ _
  rw [Heap.size_push]
  exact hq
theorem die_typecall (F : ExcBaseFacts "Exception" newId initId bB) (O : Over bm) {K : Frag} {rest : List Value} {fI : Addr} {Q : Fin → Shared → Prop}
    (hC : h.get? C = some (excClassObj n q C N bs bm hd sn sub ab col dd k0 k1 k2 k3 k5 newId)) (X : K.In h) (hi : findIn K (.ref C) "__init__" = some (some (.ref fI))) (ht : typeIn K (.ref fI) = some (.type "function"))
    (hq : ∀ h' e, Heap.MadeExcOf h h' e (.ref C) rest → wpAny (model prog w) A (call (.ref fI) (.ref e :: rest)) (fun r s' => r = .none ∧ Q (.done (.ret (.ref e))) s') E ⟨h', gs, d, tk, os⟩) (hr : rest.length ≤ sizeLine) :
    wpAny (model prog w) A (Builtin.«type.__call__» ⟨.ref C :: rest, []⟩) Q E ⟨h, gs, d, tk, os⟩ := by
  repeat (first | with_reducible refine wpAny_loadPart_at hC ?_ | with_reducible refine wpAny_madeBy_exc hC ?_ | wp_step)
  refine codeAny_call_builtin_code (Code.quiet_builtin _ F.quiet) (die_check F O hC ?_)
  refine die_new F O hC ?_ hr
  show wpAny _ _ _ _ _ _
  have k : ∀ b o, h.get? b = some o → ((h.push { cls := .type "tuple", data := .seq rest.toArray }).push { cls := .ref C, data := .fields #[.ref h.objs.size, .none, .none, .none, .bool false, .none] }).get? b = some o :=
    fun b o e => Heap.get?_push_of_some _ (Heap.get?_push_of_some _ e)
  have ge : ((h.push { cls := .type "tuple", data := .seq rest.toArray }).push { cls := .ref C, data := .fields #[.ref h.objs.size, .none, .none, .none, .bool false, .none] }).get? (h.objs.size + 1) =
      some { cls := .ref C, data := .fields #[.ref h.objs.size, .none, .none, .none, .bool false, .none] } := by heap_get
  have gt : ((h.push { cls := .type "tuple", data := .seq rest.toArray }).push { cls := .ref C, data := .fields #[.ref h.objs.size, .none, .none, .none, .bool false, .none] }).get? h.objs.size =
      some { cls := .type "tuple", data := .seq rest.toArray } := Heap.get?_push_of_some _ (Heap.get?_push_at rfl rfl)
  have c : (Value.ref C :: bm).contains (.ref C) = true := by simp
  have hC' := k _ _ hC
  unfold isInstance
  repeat (first | with_reducible refine wpAny_loadPart_at ge ?_ | (with_reducible refine wpAny_isSubtype_exc hC' ?_; rw [c]) | wp_step)
  show wpAny _ _ (typeLookup (.ref C) _) _ _ _
  refine (looks_findIn (X.keeps k) hi).here (wpAny_holding (wpAny_bind ((bind_fn (X.keeps k) _ ht).here ?_)))
  refine wpAny_bind (wpAny_mono (hq _ (h.objs.size + 1) ⟨k, Heap.get?_none_of_le (Nat.le_succ _), h.objs.size, ge, Heap.get?_none_of_le (Nat.le_refl _), gt⟩) (fun r s' hr' => ?_) fun Ω Ω x => x)
  obtain ⟨rfl, hQ⟩ := hr'
  wp_walk
  exact hQ
theorem die_call (F : ExcBaseFacts "Exception" newId initId bB) (O : Over bm) {K : Frag} {rest : List Value} {fI : Addr} {Q : Value → Shared → Prop}
    (hC : h.get? C = some (excClassObj n q C N bs bm hd sn sub ab col dd k0 k1 k2 k3 k5 newId)) (X : K.In h) (hi : findIn K (.ref C) "__init__" = some (some (.ref fI))) (ht : typeIn K (.ref fI) = some (.type "function"))
    (hq : ∀ h' e, Heap.MadeExcOf h h' e (.ref C) rest → wpAny (model prog w) (A.under (.builtin "type.__call__" ⟨.ref C :: rest, []⟩)) (call (.ref fI) (.ref e :: rest)) (fun r s' => r = .none ∧ Q (.ref e) s') E ⟨h', gs, d, tk, os⟩)
    (hr : rest.length ≤ sizeLine) : wpAny (model prog w) A (call (.ref C) rest) Q E ⟨h, gs, d, tk, os⟩ := by
  have f1 := tc_lookup
  have f2 := tc_bind (.ref C)
  have hT : (⟨h, gs, d, tk, os⟩ : Shared).TypeIs (.ref C) "type" := ⟨_, hC, rfl⟩
  refine wpAny_call (codeAny_of_tree ?_)
  show wpAny _ _ (callAny (.ref C) _) _ _ _
  repeat (any_goals (first | assumption | with_reducible refine wpAny_loadPart_at hC ?_ | wp_step))
  refine ⟨rfl, ?_⟩
  exact codeAny_call_builtin_at (Code.quiet_builtin _ (by decide +kernel)) entry_typeCall (wpAny_check_type_call_sub hC (die_typecall F O hC X hi ht hq hr))
theorem die_check_init (F : ExcBaseFacts "Exception" newId initId bB) (O : Over bm) {e : Addr} {oe : Obj} {rest : List Value} {Q : Unit → Shared → Prop}
    (hC : h.get? C = some (excClassObj n q C N bs bm hd sn sub ab col dd k0 k1 k2 k3 k5 newId)) (he : h.get? e = some oe) (hcls : oe.cls = .ref C) (hq : Q () ⟨h, gs, d, tk, os⟩) :
    wpAny M A (checkBuiltinCall initId ⟨.ref e :: rest, []⟩) Q E ⟨h, gs, d, tk, os⟩ := by
  have c : (Value.ref C :: bm).contains (.type "Exception") = true := by rw [List.contains_cons, O.ex, Bool.or_true]
  have := F.noStar
  simp only [checkBuiltinCall, F.initKind, F.initSplit, F.initRow]
  repeat (first | (with_reducible refine wpAny_loadPart_at he ?_; rw [hcls]) | with_reducible refine wpAny_loadPart_at hC ?_ | (with_reducible refine wpAny_isSubtype_exc hC ?_; rw [c]) | wp_step)
  refine wpAny_onRaise ?_
  rw [show ∀ (a b : String) (n : Nat), Bind.check ⟨.positional, "*", "Exception", .self, [⟨"args", .varPos, false⟩]⟩ a b n (List.map (fun x => x.fst) ({ pos := Value.ref e :: rest } : Args).kw) = pure () from
    fun a b n => check_star_args _ _ _ _ _ _]
  exact wpAny_pure hq
theorem die_base (F : ExcBaseFacts "Exception" newId initId bB) (O : Over bm) {e T : Addr} {v : Value} {Q : Value → Shared → Prop}
    (hC : h.get? C = some (excClassObj n q C N bs bm hd sn sub ab col dd k0 k1 k2 k3 k5 newId)) (he : h.get? e = some { cls := .ref C, data := .fields #[.ref T, .none, .none, .none, .bool false, .none] })
    (hq : ∀ h', (∀ b o, b ≠ e → h.get? b = some o → h'.get? b = some o) → h'.get? e = some { cls := .ref C, data := .fields #[.ref h.objs.size, .none, .none, .none, .bool false, .none] } → Q .none ⟨h', gs, d, tk, os⟩) :
    wpAny (model prog w) A (call (.builtin initId) [.ref e, v]) Q E ⟨h, gs, d, tk, os⟩ := by
  refine wpAny_call (codeAny_call_builtin F.init.plain F.initEntry (die_check_init F O hC he rfl ?_))
  wp_walk
  refine hq _ (fun b o hb x => ?_) ?_
  · rw [Heap.get?_update_other _ _ (Ne.symm hb)]
    exact Heap.get?_push_of_some _ x
  · rw [Heap.get?_update_self _ (Heap.get?_push_of_some _ he) rfl]
    rfl
end
end
section
set_option tactic.hygienic false
open PySem PySem.W PySem.Calls PyProof.Rows
noncomputable def forS (S : Src) (body : Loc → Ks → AH → Prop) (x : Nat) (k : Ks) : List AV → Loc → AH → Prop
  | [], ρ, σ => S.ok σ ∧ k.next ρ σ
  | v :: r, ρ, σ => S.ok σ ∧ body (ρ.put x v) (Ks.lp k (forS S body x k r)) σ
theorem forS_L {body : Loc → Ks → AH → Prop} {x l : Nat} {xs : List AV} {k : Ks} : ∀ (r : List AV), forL body x l xs k r = forS (.lst l xs) body x k r
  | [] => rfl
  | v :: r => by
    funext ρ σ
    show (_ ∧ body _ _ _) = (_ ∧ body _ _ _)
    rw [forS_L r]
    rfl
theorem forS_N {body : Loc → Ks → AH → Prop} {x : Nat} {lo : Int} {n : Nat} {k : Ks} : ∀ (r : List AV), forN body x k r = forS (.rng lo n) body x k r
  | [] => by
    funext ρ σ
    show k.next ρ σ = (True ∧ k.next ρ σ)
    rw [true_and]
  | v :: r => by
    funext ρ σ
    show body _ _ _ = (True ∧ body _ _ _)
    rw [forS_N r, true_and]
section
variable {g : Gb} {Φ : SemF} {A : Around} {env : Env} {n : Nat} {c : Cx}
theorem kp_ok {k : List (Addr × Obj)} (O : AOk g A c n) (h : ∀ q ∈ c.keep, q ∈ k) : AOk g A (c.kp k) n := by
  refine ⟨O.hA, O.rm, O.st, ?_⟩
  obtain ⟨env, outer, e, fr⟩ := O.fr
  refine ⟨env, outer, e, fun e he => ?_⟩
  obtain ⟨h1, L, h2, h3, h4⟩ := fr e he
  exact ⟨h1, L, h2, h3, h4.imp id fun ⟨o, es, n, m, d⟩ => ⟨o, es, n, h _ m, d⟩⟩
theorem kp_env {k : List (Addr × Obj)} (EO : EnvOk c env) : EnvOk (c.kp k) env := ⟨EO.hk, EO.hl, EO.hg, EO.hb⟩
theorem kp_cell {a : Addr} {o : Obj} (CO : CellOk c env) (h : ∀ q ∈ c.all, q.1 ≠ a) : CellOk (c.kp ((a, o) :: c.keep)) env :=
  ⟨fun x b k1 k2 => ⟨(CO.own x b k1 k2).1, fun q hq => by
    rcases List.mem_cons.mp hq with rfl | hq
    · intro e
      obtain ⟨p, hp, e2⟩ := List.mem_map.mp (CO.own x b k1 k2).1
      exact h p (List.mem_append_left _ hp) (e2.trans e.symm)
    · exact (CO.own x b k1 k2).2 q hq⟩, CO.data, CO.inj, CO.nd, fun x b k1 => let ⟨q, hq, e⟩ := CO.there x b k1; ⟨q, mem_all.mpr ((List.mem_append.mp hq).imp id fun z => .tail _ z), e⟩⟩
theorem kp_loc {ρ : Loc} {k : List (Addr × Obj)} (h : LocR g c env ρ) (hs : ∀ q ∈ c.keep, q ∈ k) : LocR g (c.kp k) env ρ := fun x v e => by
  obtain ⟨a, w, r, t⟩ := h x v e
  refine ⟨a, w, r, ?_⟩
  have up : ∀ q, q ∈ c.all → q ∈ (c.kp k).all := fun q hq => mem_all.mpr ((List.mem_append.mp hq).imp id (hs q))
  cases t with
  | «local» k1 k2 => exact .local k1 k2
  | cell a o k1 k2 k3 k4 => exact .cell a o k1 k2 (up _ k3) k4
  | free a o k1 k2 k3 k4 => exact .free a o k1 k2 (up _ k3) k4
noncomputable def NotIn (env : Env) (a : Addr) : Prop := ∀ x, env.cells.lookup x ≠ some a
theorem un_loc {c' : Cx} {ρ : Loc} {a : Addr} {o : Obj} {k : List (Addr × Obj)} (h : LocR g (c'.kp ((a, o) :: k)) env ρ) (ni : NotIn env a) : LocR g (c'.kp k) env ρ := fun x v e => by
  obtain ⟨i, w, r, t⟩ := h x v e
  refine ⟨i, w, r, ?_⟩
  have dn : ∀ b ob, (b, ob) ∈ (c'.kp ((a, o) :: k)).all → env.cells.lookup (g.nm x) = some b → (b, ob) ∈ (c'.kp k).all := fun b ob hq hl => by
    refine mem_all.mpr ((mem_all.mp hq).imp id fun z => ?_)
    rcases List.mem_cons.mp z with z | z
    · cases z; exact absurd hl (ni _)
    · exact z
  cases t with
  | «local» k1 k2 => exact .local k1 k2
  | cell b o k1 k2 k3 k4 => exact .cell b o k1 k2 (dn _ _ k3 k2) k4
  | free b o k1 k2 k3 k4 => exact .free b o k1 k2 (dn _ _ k3 k2) k4
theorem notIn_of (CO : CellOk c env) {a : Addr} (f : ∀ q ∈ c.all, q.1 ≠ a) : NotIn env a := fun x e => by
  obtain ⟨q, hq, rfl⟩ := CO.there x a e
  exact f q hq rfl
theorem un_cell {c' : Cx} {a : Addr} {o : Obj} {k : List (Addr × Obj)} (CO : CellOk (c'.kp ((a, o) :: k)) env) (ni : NotIn env a) : CellOk (c'.kp k) env :=
  ⟨fun x b k1 k2 => ⟨(CO.own x b k1 k2).1, fun q hq => (CO.own x b k1 k2).2 q (.tail _ hq)⟩, CO.data, CO.inj, CO.nd, fun x b k1 => by
    obtain ⟨q, hq, rfl⟩ := CO.there x b k1
    refine ⟨q, mem_all.mpr ((mem_all.mp hq).imp id fun z => ?_), rfl⟩
    rcases List.mem_cons.mp z with rfl | z
    · exact absurd k1 (ni _)
    · exact z⟩
inductive ForSt (g : Gb) (c : Cx) (env : Env) (a : Addr) (o : Obj) (P : Loc → AH → Prop) (s : Shared) : Prop
  | mk (c' : Cx) (ρ : Loc) (σ : AH) (N : Nx c c') (C : CellOk c' env) (R : LocR g c' env ρ) (I : Inv g (c'.kp ((a, o) :: c.keep)) σ s) (q : P ρ σ)
inductive ForI (g : Gb) (c : Cx) (env : Env) (a : Addr) (S : Src) (P : List AV → Loc → AH → Prop) (m : Nat) (s : Shared) : Prop
  | mk (i : Nat) (o : Obj) (hm : m = S.items.length + 1 - i) (hi : i ≤ S.items.length) (ho : S.obj i o) (F : ForSt g c env a o (P (S.items.drop i)) s)
theorem forCore {S : Src} {x : Nat} {p : Pos} {b : SS} {body : List Stmt} (hb : OkSS g Φ A n env b body) (hx : x < g.nN) (hk : env.kindOf (g.nm x) = some .local)
    (O : AOk g A c n) (EO : EnvOk c env) (CO : CellOk c env) {k : Ks} {ρ : Loc} {σ : AH} {s : Shared} {a : Addr} {o : Obj} (ho : S.obj 0 o) (nk : ∀ q ∈ c.all, q.1 ≠ a) (ni : NotIn env a) (hρ : LocR g c env ρ) (I : Inv g (c.kp ((a, o) :: c.keep)) σ s)
    (h : forS S (fun ρ k σ => exs Φ b ρ k σ) x k S.items ρ σ) {R : Result → Shared → Prop} (hR : ∀ f s', PF g c env k f s' → R (.ok f) s') :
    codeAny (model g.prog g.w) A (.forLoop (.Name (g.nm x) p) (.ref a) body [] env) R s := by
  have keysNk : ∀ {c' : Cx}, Nx c c' → ∀ q ∈ c'.cells ++ c.keep, q.1 ≠ a := fun N q hq e => by
    rcases List.mem_append.mp hq with hq | hq
    · have : q.1 ∈ c.cells.map (·.1) := N.keys ▸ List.mem_map_of_mem hq
      obtain ⟨q', h', e'⟩ := List.mem_map.mp this
      exact nk q' (List.mem_append_left _ h') (e'.trans e)
    · exact nk q (List.mem_append_right _ hq) e
  refine codeAny_forLoop_any (ForI g c env a S (forS S (fun ρ k σ => exs Φ b ρ k σ) x k)) ?_ (S.items.length + 1) ⟨0, o, rfl, Nat.zero_le _, ho, c, ρ, σ, .rfl, CO, hρ, I, h⟩
  rintro m s' ⟨i, o', rfl, hi, ho', c', ρ', σ', N, CO', hρ', I', h'⟩
  have ek : c'.keep = c.keep := N.keep
  cases hx' : S.items[i]? with
  | none =>
    have : S.items.drop i = [] := List.drop_eq_nil_of_le (by simpa using hx')
    rw [this] at h'
    refine next_end O.hA I' (keysNk N) ho' h'.1 hx' fun s'' I'' => ?_
    refine wpAny_execs_nil (hR _ _ ?_)
    rw [← ek] at I''
    exact ⟨c', ρ', σ', N, CO', hρ', I'', h'.2⟩
  | some v =>
    have hlt : i < S.items.length := (List.getElem?_eq_some_iff.mp hx').1
    have hd : S.items.drop i = v :: S.items.drop (i + 1) := by
      rw [List.drop_eq_getElem_cons hlt]
      rw [List.getElem?_eq_getElem hlt] at hx'
      cases hx'; rfl
    rw [hd] at h'
    obtain ⟨hS, h'⟩ := h'
    refine next_item I' (keysNk N) ho' hS hx' fun w o'' s'' r ho'' I'' => ?_
    refine wpAny_of_eq (show letOwnedTupleGo (.Name (g.nm x) p) (.ref a) w = pure () from rfl) ?_
    refine wpAny_assign_Name ?_
    have nk' : ∀ q ∈ c'.all, q.1 ≠ a := fun q hq => keysNk N q (by unfold Cx.all at hq; rw [ek] at hq; exact hq)
    have I3 : Inv g (c'.kp ((a, o'') :: c'.keep)) σ' s'' := by rw [ek]; exact I''
    refine storeOk (c := c'.kp ((a, o'') :: c'.keep)) (kp_env (EO.nx N)) (kp_cell CO' nk') (O.nx N).st (kp_loc hρ' fun q hq => .tail _ hq) I3 r hx (.inl hk) fun d s4 N4 CO4 hρ4 I4 => ?_
    refine wpAny_mono (hb d ((kp_ok (O.nx N) fun q hq => .tail _ hq).nx N4) ((kp_env (EO.nx N)).nx N4) CO4 _ _ σ' s4 hρ4 I4 h') (fun f s5 h5 => ?_) fun e s5 h5 => ?_
    · have back : ∀ {P : Loc → AH → Prop}, St g d env P s5 → ForSt g c env a o'' P s5 := by
        rintro P ⟨d', ρ5, σ5, N5, CO5, hρ5, I5, q5⟩
        have N6 := N4.trans N5
        have kd : d'.keep = (a, o'') :: c.keep := by rw [N6.keep]; show (a, o'') :: c'.keep = _; rw [ek]
        have ed : d' = (d'.kp c.keep).kp ((a, o'') :: c.keep) := by rw [← kd]
        refine ⟨d'.kp c.keep, ρ5, σ5, ⟨N6.base.trans N.base, N6.L.trans N.L, N6.s₀.trans N.s₀, rfl, N6.keys.trans N.keys⟩, ?_, ?_, ?_, q5⟩
        · rw [ed] at CO5; exact un_cell CO5 ni
        · rw [ed] at hρ5; exact un_loc hρ5 ni
        · rw [ed] at I5; exact I5
      have drop : ∀ {c'' : Cx} {σ5 : AH}, Nx c c'' → Inv g (c''.kp ((a, o'') :: c.keep)) σ5 s5 → Inv g c'' σ5 s5 := fun {c''} {σ5} N7 I5 => by
        have := I5.dropK (tk := s5.toks) (keysNk N7) (h' := s5.heap) fun b o Ω e => e
        have e7 : c''.kp c.keep = c'' := by rw [← N7.keep]
        rw [e7] at this; exact this
      cases f with
      | next =>
        exact ⟨S.items.length + 1 - (i + 1), Nat.sub_lt_sub_left (Nat.lt_succ_of_lt hlt) (Nat.lt_succ_self i), i + 1, o'', rfl, hlt, ho'', back h5⟩
      | cont => exact h5.elim
      | brk =>
        obtain ⟨c'', ρ5, σ5, N7, CO7, hρ7, I7, q7⟩ := back h5
        exact hR _ _ ⟨c'', ρ5, σ5, N7, CO7, hρ7, drop N7 I7, q7⟩
      | ret v =>
        obtain ⟨d', N5, y, σ5, ry, I5, q5⟩ := h5
        have N6 := N4.trans N5
        have kd : d'.keep = (a, o'') :: c.keep := by rw [N6.keep]; show (a, o'') :: c'.keep = _; rw [ek]
        have ed : d' = (d'.kp c.keep).kp ((a, o'') :: c.keep) := by rw [← kd]
        have N7 : Nx c (d'.kp c.keep) := ⟨N6.base.trans N.base, N6.L.trans N.L, N6.s₀.trans N.s₀, rfl, N6.keys.trans N.keys⟩
        rw [ed] at I5
        exact hR _ _ ⟨d'.kp c.keep, N7, y, σ5, ry, drop N7 I5, q5⟩
    · exfalso
      rcases h5 with ⟨_, _, _, _, _, z⟩ | ⟨_, _, _, _, _, _, _, _, _, _, z, _⟩
      · exact z.no
      · exact z
end
end
section
set_option tactic.hygienic false
open PySem PySem.W PySem.Calls PyProof.Rows
theorem folded_of {e : Expr} (h : plainR e = true) (env : Env) (x : Value) : foldedSetIterable e env x = pure x := by
  have K : true = true → (pure x : Sem Value) = pure x := fun Ω => rfl
  have F : ∀ {P : Prop}, false = true → P := fun h => (Bool.false_ne_true h).elim
  revert h
  cases e <;> first | exact K | exact F
section
variable {g : Gb} {Φ : SemF} {A : Around} {env : Env} {n : Nat}
theorem for_list {x : Nat} {e : Expr} {p pos} {b : SS} {body : List Stmt} (hb : OkSS g Φ A n env b body) (hx : x < g.nN) (hk : env.kindOf (g.nm x) = some .local) (hp : plainR e = true) {c : Cx} (O : AOk g A c n) (EO : EnvOk c env) (CO : CellOk c env) {ρ : Loc} {k : Ks} {s : Shared} (hρ : LocR g c env ρ)
    (h : wpAny (model g.prog g.w) A (eval e env) (PV g c fun t σ => ListS t σ fun l xs => forL (fun ρ k σ => exs Φ b ρ k σ) x l xs k xs ρ σ) (Th g A c (k.exc ρ)) s) :
    wpAny (model g.prog g.w) A (exec (.For (.Name (g.nm x) p) e body [] pos) env) (PF g c env k) (TF g A c env k) s := by
  refine wpAny_For (wpAny_mono h (fun v s₁ h₁ => ?_) fun Ω Ω t => .th CO hρ t) (folded_of hp env)
  obtain ⟨_, σ₁, r, I₁, l, xs, rfl, hl, q⟩ := h₁
  cases r
  rw [forS_L] at q
  exact iter_list I₁ hl fun a o s₂ ho nk Ω I₂ => forCore hb hx hk O EO CO ho nk (notIn_of CO nk) hρ I₂ q fun f s' h' => h'
theorem okS_for {x : Nat} {y : X} {e : Expr} {p pos} {b : SS} {body : List Stmt} (he : AllE g Φ A n env y e) (hb : OkSS g Φ A n env b body) (hx : x < g.nN) (hk : env.kindOf (g.nm x) = some .local) (hp : plainR e = true) :
    OkS g Φ A n env (.for x y b) (.For (.Name (g.nm x) p) e body [] pos) := fun c O EO CO ρ k σ s hρ I hh => for_list hb hx hk hp O EO CO hρ (he c O EO ρ hρ _ _ σ s I hh)
theorem intsR_items (i j : Int) : intsR i j = (Src.rng i (j - i).toNat).items := rfl
theorem range_iter {c : Cx} {σ : AH} {s : Shared} {E : Value → Shared → Prop} (I : Inv g c σ s) {i j : Int} {t u v : Tok} {r : Addr} (hr : IsRange s.heap r i j 1 t u v) (hi : -lim ≤ i ∧ i ≤ lim) (hj : -lim ≤ j ∧ j ≤ lim) {Q : Value → Shared → Prop}
    (h : ∀ a o s', (Src.rng i (j - i).toNat).obj 0 o → (∀ q ∈ c.all, q.1 ≠ a) → σ a = none → Inv g (c.kp ((a, o) :: c.keep)) σ s' → Q (.ref a) s') : wpAny (model g.prog g.w) A (pyIter (.ref r)) Q E s := by
  have lz : lim = 10000 := rfl
  refine wpAny_pyIter_range hr (small_one (by lia) (by lia) (by lia) (by lia)) ?_
  obtain ⟨I', nk, na⟩ := I.newK (tk := s.toks) (get_size s.heap) (fun b o e => Heap.get?_push_of_some _ e) (Heap.get?_push_size (o := { cls := .type "range_iterator", data := .fields #[rawInt i, rawInt (Builtin.Range.rangeSize i j 1), rawInt 1] }) s.heap rfl)
  refine h _ _ _ ?_ nk na I'
  show ({ cls := .type "range_iterator", data := .fields #[rawInt i, rawInt (Builtin.Range.rangeSize i j 1), rawInt 1] } : Obj) =
    { cls := .type "range_iterator", dict := none, data := .fields #[rawInt (i + ((0 : Nat) : Int)), rawInt (((j - i).toNat : Int) - ((0 : Nat) : Int)), rawInt 1], slots := #[] }
  have e1 : Builtin.Range.rangeSize i j 1 = ((j - i).toNat : Int) - ((0 : Nat) : Int) := by
    rw [rangeSize_one]; split <;> lia
  have e2 : i + ((0 : Nat) : Int) = i := by lia
  rw [e1, e2]
inductive RngA (g : Gb) (Φ : SemF) (A : Around) (n : Nat) (env : Env) : X → X → List Expr → Prop where
  | one {y e} (h : AllE g Φ A n env y e) : RngA g Φ A n env (.int 0) y [e]
  | two {x y e f} (h : AllE g Φ A n env x e) (h' : AllE g Φ A n env y f) : RngA g Φ A n env x y [e, f]
theorem range_eval {c : Cx} (O : AOk g A c n) (EO : EnvOk c env) {x y : X} {es : List Expr} {id : Str} {p pos : Pos} (hg : GlobN g env id (.type "range")) (ha : RngA g Φ A n env x y es) (hp : plainArgs es = true) {ρ : Loc} (hρ : LocR g c env ρ) {E : EX} {P : AV → AV → AH → Prop} {σ : AH} {s : Shared} (I : Inv g c σ s)
    (h : ev Φ x ρ (fun t σ => ev Φ y ρ (fun u σ => P t u σ) E σ) E σ) (hP : ∀ t u σ, P t u σ → ∃ i j, t = .int i ∧ u = .int j) {Q : Value → Shared → Prop}
    (k : ∀ r i j t u v σ s, IsRange s.heap r i j 1 t u v → Inv g c σ s → P (.int i) (.int j) σ → Q (.ref r) s) :
    wpAny (model g.prog g.w) A (eval (.Call (.Name id p) es [] pos) env) Q (Th g A c E) s := by
  refine wpAny_Call_Name_kw (name_glob O.st EO I hg ?_)
  cases ha with
  | one h1 =>
    refine callWith_1 kept_type hp (I.X O.st) (wpAny_mono (h1 c O EO ρ hρ _ _ σ s I h) (fun v s₁ h₁ => ?_) fun Ω Ω t => t)
    obtain ⟨_, σ₁, r, I₁, q⟩ := h₁
    refine ⟨I₁.X O.st, ?_⟩
    obtain ⟨i, j, e1, rfl⟩ := hP _ _ _ q
    cases e1
    cases r
    exact call_range_1 (k _ 0 j _ _ _ σ₁ _ (IsRange.new ..) (I₁.keeps fun Ω Ω e => Heap.get?_push_of_some _ e) q)
  | two h1 h2 =>
    refine callWith_2 kept_type hp (I.X O.st) (two (h1 c O EO) (h2 c O EO) hρ I h fun v u x y σ s r r' I q => ⟨I.X O.st, ?_⟩)
    obtain ⟨i, j, rfl, rfl⟩ := hP _ _ _ q
    cases r; cases r'
    exact call_range_2 (k _ i j _ _ _ σ _ (IsRange.new ..) (I.keeps fun Ω Ω e => Heap.get?_push_of_some _ e) q)
theorem okS_forR {x : Nat} {y z : X} {es : List Expr} {id : Str} {p p' p'' pos} {b : SS} {body : List Stmt} (hg : GlobN g env id (.type "range")) (ha : RngA g Φ A n env y z es) (hp : plainArgs es = true) (hb : OkSS g Φ A n env b body) (hx : x < g.nN) (hk : env.kindOf (g.nm x) = some .local) :
    OkS g Φ A n env (.forR x y z b) (.For (.Name (g.nm x) p) (.Call (.Name id p') es [] p'') body [] pos) := by
  intro c O EO CO ρ k σ s hρ I hh
  refine wpAny_For (wpAny_mono (range_eval O EO hg ha hp hρ I hh (fun t u σ ⟨i, j, e1, e2, _⟩ => ⟨i, j, e1, e2⟩) (Q := fun v s => ∃ r i j t u w σ, v = .ref r ∧ IsRange s.heap r i j 1 t u w ∧ Inv g c σ s ∧ (-lim ≤ i ∧ i ≤ lim) ∧ (-lim ≤ j ∧ j ≤ lim) ∧ forN (fun ρ k σ => exs Φ b ρ k σ) x k (intsR i j) ρ σ)
    fun r i j t u w σ s hr I ⟨i', j', e1, e2, b1, b2, q⟩ => ?_) (fun v s₁ h₁ => ?_) fun Ω Ω t => .th CO hρ t) (folded_of rfl env)
  · cases e1; cases e2
    exact ⟨r, i, j, t, u, w, σ, rfl, hr, I, b1, b2, q⟩
  · obtain ⟨r, i, j, t, u, w, σ₁, rfl, hr, I₁, b1, b2, q⟩ := h₁
    rw [intsR_items, forS_N (lo := i) (n := (j - i).toNat)] at q
    exact range_iter I₁ hr b1 b2 fun a o s₂ ho nk Ω I₂ => forCore hb hx hk O EO CO ho nk (notIn_of CO nk) hρ I₂ q fun f s' h' => h'
theorem okS_while {t : T} {b : SS} {e : Expr} {body : List Stmt} {pos} (ht : AllT g Φ A n env t e) (hb : OkSS g Φ A n env b body) : OkS g Φ A n env (.while t b) (.While e body [] pos) := by
  intro c O EO CO ρ k σ s hρ I hh
  obtain ⟨m, hh⟩ := hh
  refine wpAny_While (codeAny_whileLoop (fun m => St g c env (whileN (fun ρ Q σ => tst Φ t ρ Q (fun Ω => False) σ) (fun ρ k σ => exs Φ b ρ k σ) k m)) ?_ m ⟨c, ρ, σ, .rfl, CO, hρ, I, hh⟩)
  rintro m s' ⟨c', ρ', σ', N, CO', hρ', I', h'⟩
  cases m with
  | zero => exact h'.elim
  | succ m =>
    refine wpAny_mono (ht c' (O.nx N) (EO.nx N) ρ' hρ' _ _ σ' s' I' h') (fun v s₁ h₁ => ?_) fun Ω Ω z => z.no.elim
    obtain ⟨σ₁, I₁, q0, q1⟩ := h₁
    cases v
    · exact wpAny_execs_nil ⟨c', ρ', σ₁, N, CO', hρ', I₁, q0 rfl⟩
    · refine wpAny_mono (hb c' (O.nx N) (EO.nx N) CO' ρ' _ σ₁ s₁ hρ' I₁ (q1 rfl)) (fun f s₂ h₂ => ?_) fun e s₂ h₂ => ?_
      · have h3 := PV.nx (Q := fun Ω Ω => True) (v := .none) (k' := (Ks.lp k (whileN (fun ρ Q σ => tst Φ t ρ Q (fun Ω => False) σ) (fun ρ k σ => exs Φ b ρ k σ) k m))) N h₂ rfl rfl rfl
        cases f with
        | next => exact ⟨m, Nat.lt_succ_self m, h3⟩
        | brk => exact h3
        | cont => exact h3.elim
        | ret v => exact h3
      · exfalso
        rcases h₂ with ⟨_, _, _, _, _, z⟩ | ⟨_, _, _, _, _, _, _, _, _, _, z, _⟩
        · exact z.no
        · exact z
end
end
section
set_option tactic.hygienic false
open PySem PySem.W PySem.Calls PyProof.Rows
noncomputable def NsObj (o : Obj) (m : Str → Option Value) : Prop := ∃ es ep, o.data = .dict es ep ∧ StrKeys es ∧ ∀ name, nsFind es name = m name
section
variable {g : Gb} {c : Cx} {σ : AH} {s : Shared}
theorem NsObj.ns {o : Obj} {m : Str → Option Value} (h : NsObj o m) {hp : Heap} {a : Addr} (e : hp.get? a = some o) : hp.Ns a m := by
  obtain ⟨es, ep, h1, h2, h3⟩ := h; exact ⟨o, es, ep, e, h1, h2, h3⟩
theorem NsObj.keepR {o o' : Obj} {m : Str → Option Value} (h : NsObj o m) (k : KeepR o o') : NsObj o' m := by
  obtain ⟨es, ep, h1, h2, h3⟩ := h; exact ⟨es, ep, k.data.trans h1, h2, h3⟩
theorem Ns.obj {hp : Heap} {a : Addr} {m : Str → Option Value} (h : hp.Ns a m) : ∃ o, hp.get? a = some o ∧ NsObj o m := by
  obtain ⟨o, es, ep, e, h1, h2, h3⟩ := h; exact ⟨o, e, es, ep, h1, h2, h3⟩
theorem Inv.perm {c' : Cx} (I : Inv g c σ s) (hb : c'.base = c.base) (hL : c'.L = c.L) (hm : c'.m = c.m) (h0 : c'.s₀ = c.s₀) (h : ∀ q ∈ c'.all, q ∈ c.all) : Inv g c' σ s := by
  obtain ⟨D, led, H, A, K⟩ := I
  refine ⟨D, led, H, ⟨?_, ?_, ?_, ?_, ?_⟩, fun q hq => K q (h q hq)⟩
  · rw [hb, hL, hm]; exact A.fr
  · rw [hb, hL]; exact A.news
  · rw [h0]; exact A.gens
  · rw [h0]; exact A.drawn
  · rw [h0]; exact A.os
theorem Inv.swap {C : Addr} {oC : Obj} {m' : Str → Option Value} {k : List (Addr × Obj)} (I : Inv g (c.kp ((C, oC) :: k)) σ s) (hC : NsObj oC m') (hb : c.base.objs.size ≤ C) (hd : ∀ q ∈ c.cells ++ k, q.1 ≠ C) :
    ∃ oL, NsObj oL c.m ∧ c.L ≠ C ∧ (∀ q ∈ c.cells ++ k, q.1 ≠ c.L) ∧ Inv g { c with L := C, m := m', keep := (c.L, oL) :: k } σ s := by
  obtain ⟨D, led, H, A, K⟩ := I
  obtain ⟨⟨o1, m, kr⟩, no⟩ := K (C, oC) (mem_all.mpr (.inr (.head _)))
  obtain ⟨oL, eL, nL⟩ := Ns.obj A.fr.ns
  have hCL := (A.news _ m).2.1
  have bL : c.base.get? c.L = none := by
    cases q : c.base.get? c.L with
    | none => rfl
    | some o => exact absurd (Nat.lt_of_lt_of_le (Heap.lt_size q) A.fr.above) (Nat.lt_irrefl _)
  have mf : ∀ q, q ∈ led → q.1 ≠ C → q ∈ led.filter (fun q => !decide (q.1 = C)) := fun q hq ne => List.mem_filter.mpr ⟨hq, by simpa using ne⟩
  have fm : ∀ q, q ∈ led.filter (fun q => !decide (q.1 = C)) → q ∈ led ∧ q.1 ≠ C := fun q hq => ⟨(List.mem_filter.mp hq).1, by simpa using (List.mem_filter.mp hq).2⟩
  have nled : ∀ o, (c.L, o) ∉ led := fun o q => (A.news _ q).2.1 rfl
  have nown : ¬ Own σ D c.L := by
    rintro (z | ⟨b, C', fs, e, q⟩)
    · exact z (H.none_of nled)
    · obtain ⟨_, es, n, m2, _⟩ := H.obj b _ e
      exact nled _ (q ▸ m2)
  refine ⟨oL, nL, Ne.symm hCL, fun q hq e => ?_, D, (c.L, oL) :: led.filter (fun q => !decide (q.1 = C)), ⟨?_, fun b ob e => (H.notOwn no e fun q hq ne => mf q hq ne).more fun q hq => .tail _ hq, H.inj, H.sep⟩, ⟨⟨(hC.keepR kr).ns (A.news _ m).1, A.fr.keep, hb⟩, fun q hq => ?_, A.gens, A.drawn, A.os⟩, fun q hq => ?_⟩
  · obtain ⟨⟨o2, z, _⟩, _⟩ := K q (mem_all.mpr ((List.mem_append.mp hq).imp id fun h => .tail _ h))
    exact nled o2 (e ▸ z)
  · rw [List.map_cons, List.nodup_cons]
    refine ⟨fun z => ?_, (List.filter_sublist.map _).nodup H.nd⟩
    obtain ⟨p, hp, e⟩ := List.mem_map.mp z
    obtain ⟨p1, p2⟩ := p
    cases e
    exact nled _ (fm _ hp).1
  · rcases List.mem_cons.mp hq with rfl | hq
    · exact ⟨eL, Ne.symm hCL, bL⟩
    · obtain ⟨q1, q2⟩ := fm q hq
      exact ⟨(A.news q q1).1, q2, (A.news q q1).2.2⟩
  · have hq2 : q ∈ c.cells ∨ q ∈ (c.L, oL) :: k := List.mem_append.mp hq
    rcases hq2 with hq | hq
    · obtain ⟨⟨o2, z, kr2⟩, w⟩ := K q (mem_all.mpr (.inl hq))
      exact ⟨⟨o2, .tail _ (mf _ z (hd q (List.mem_append_left _ hq))), kr2⟩, w⟩
    · rcases List.mem_cons.mp hq with rfl | hq
      · exact ⟨⟨oL, .head _, .rfl⟩, nown⟩
      · obtain ⟨⟨o2, z, kr2⟩, w⟩ := K q (mem_all.mpr (.inr (.tail _ hq)))
        exact ⟨⟨o2, .tail _ (mf _ z (hd q (List.mem_append_right _ hq))), kr2⟩, w⟩
theorem Inv.claimL {a : Addr} {vs : List Value} {ys : List AV} {n : Nat} {k : List (Addr × Obj)} (I : Inv g (c.kp ((a, listOf vs.toArray n) :: k)) σ s) (hd : ∀ q ∈ c.cells ++ k, q.1 ≠ a) (r : VRs vs ys) :
    σ a = none ∧ Inv g (c.kp k) (σ.put a (.list ys)) s := by
  obtain ⟨D, led, H, A, K⟩ := I
  obtain ⟨⟨o1, m, kr⟩, no⟩ := K (a, listOf vs.toArray n) (mem_all.mpr (.inr (.head _)))
  have e1 : o1 = listOf vs.toArray n := by
    rcases kr with e | ⟨es, n', _, e, _⟩
    · exact e
    · cases e
  subst e1
  have hn : σ a = none := by
    cases q : σ a with
    | none => rfl
    | some o => exact absurd (.inl (by rw [q]; simp)) no
  refine ⟨hn, D, led, H.claim (fun Ω Ω z => by cases z) no ⟨vs, n, m, r⟩, ⟨A.fr, A.news, A.gens, A.drawn, A.os⟩, fun q hq => ?_⟩
  obtain ⟨z, w⟩ := K q (mem_all.mpr ((mem_all.mp hq).imp id fun h => .tail _ h))
  have ne : q.1 ≠ a := hd q (List.mem_append.mpr (mem_all.mp hq))
  exact ⟨z, fun ow => (Own.put (fun Ω Ω z => by cases z) ow).elim ne w⟩
end
section
theorem forIn_yield_pure {α β : Type} {f : α → β → Sem (ForInStep β)} {h : α → β → β} : ∀ {l : List α} (c : β), (∀ x ∈ l, ∀ c, f x c = pure (.yield (h x c))) → forIn l c f = pure (l.foldl (fun c x => h x c) c)
  | [], c, _ => rfl
  | x :: r, c, hh => by
    rw [List.forIn_cons, hh x (.head _)]
    show (forIn r (h x c) f) = _
    rw [forIn_yield_pure (h x c) fun y hy => hh y (.tail _ hy)]
    rfl
noncomputable def clOf (env : Env) (names : List (Str × NameKind)) : List (Str × Addr) := names.foldl (fun cs x => if (x.2 == .free) = true then (x.1, (env.cells.lookup x.1).getD 0) :: cs else cs) []
theorem closure_of {scope : Scope} {env : Env} (h : ∀ x ∈ scope.names, x.2 = .free → (env.cells.lookup x.1).isSome = true) : closureFor scope env = pure (clOf env scope.names) := by
  unfold closureFor
  show (forIn scope.names [] _ >>= _) = _
  rw [forIn_yield_pure (h := fun (x : Str × NameKind) cs => if (x.2 == .free) = true then (x.1, (env.cells.lookup x.1).getD 0) :: cs else cs) [] fun x hx cs => ?_]
  · rfl
  · obtain ⟨n, k⟩ := x
    by_cases q : (k == NameKind.free) = true
    · have := h _ hx (beq_iff_eq.mp q)
      obtain ⟨a, ha⟩ := Option.isSome_iff_exists.mp this
      have ha' : env.cells.lookup n = some a := ha
      simp only [q, if_true, cellOf, ha', Option.getD_some]
      rfl
    · have q' : (k == NameKind.free) = false := by simpa using q
      simp only [q', Bool.false_eq_true, if_false]
theorem clOf_mem {env : Env} {names : List (Str × NameKind)} : (∀ p ∈ clOf env names, p.2 = (env.cells.lookup p.1).getD 0) ∧ ∀ x ∈ names, x.2 = .free → x.1 ∈ (clOf env names).map (·.1) := by
  unfold clOf
  have gen : ∀ (names : List (Str × NameKind)) (cs : List (Str × Addr)), (∀ p ∈ cs, p.2 = (env.cells.lookup p.1).getD 0) →
      (∀ p ∈ names.foldl (fun cs x => if (x.2 == .free) = true then (x.1, (env.cells.lookup x.1).getD 0) :: cs else cs) cs, p.2 = (env.cells.lookup p.1).getD 0) ∧
      ∀ x, (x ∈ cs.map (·.1) ∨ ∃ y ∈ names, y.2 = .free ∧ y.1 = x) → x ∈ (names.foldl (fun cs x => if (x.2 == .free) = true then (x.1, (env.cells.lookup x.1).getD 0) :: cs else cs) cs).map (·.1) := by
    intro names
    induction names with
    | nil => intro cs h; exact ⟨h, fun x hx => hx.elim id fun ⟨_, q, _⟩ => by cases q⟩
    | cons y r ih =>
      intro cs h
      rw [List.foldl_cons]
      obtain ⟨i1, i2⟩ := ih (if (y.2 == .free) = true then (y.1, (env.cells.lookup y.1).getD 0) :: cs else cs) (by
        split
        · intro p hp
          rcases List.mem_cons.mp hp with rfl | hp
          · rfl
          · exact h p hp
        · exact h)
      refine ⟨i1, fun x hx => i2 x ?_⟩
      rcases hx with hx | ⟨z, hz, f, rfl⟩
      · left; split
        · exact List.mem_cons_of_mem _ hx
        · exact hx
      · rcases List.mem_cons.mp hz with rfl | hz
        · left; rw [if_pos (by rw [f]; rfl)]; exact .head _
        · exact .inr ⟨z, hz, f, rfl⟩
  obtain ⟨a, b⟩ := gen names [] (fun Ω h => by cases h)
  exact ⟨a, fun x hx f => b x.1 (.inr ⟨x, hx, f, rfl⟩)⟩
theorem lookup_all {l : List (Str × Addr)} {x : Str} {a : Addr} (h : ∀ p ∈ l, p.1 = x → p.2 = a) (m : x ∈ l.map (·.1)) : l.lookup x = some a := by
  induction l with
  | nil => cases m
  | cons p r ih =>
    obtain ⟨k, b⟩ := p
    rw [List.lookup_cons]
    by_cases q : x = k
    · subst q
      have : b = a := h _ (.head _) rfl
      simp [this]
    · rw [show (x == k) = false from beq_eq_false_iff_ne.mpr q]
      refine ih (fun p hp => h p (.tail _ hp)) ?_
      rcases List.mem_cons.mp m with m | m
      · exact absurd m q
      · exact m
theorem clOf_lookup {env : Env} {names : List (Str × NameKind)} {x : Str} {a : Addr} (h : (x, .free) ∈ names) (e : env.cells.lookup x = some a) : (clOf env names).lookup x = some a := by
  obtain ⟨h1, h2⟩ := clOf_mem (env := env) (names := names)
  refine lookup_all (fun p hp q => ?_) (h2 _ h rfl)
  rw [h1 p hp, q, e]; rfl
end
end
section
set_option tactic.hygienic false
open PySem PySem.W PySem.Calls PyProof.Rows
section
variable {M : Model} {A : Around} {E : Value → Shared → Prop} {s : Shared} {B : Heap} {l : List Env} {e : Addr} {cls a0 fl : Value}
theorem noField {h : Heap} {T : Addr} {oT : Obj} {ts : Array Value} (hT : h.get? T = some oT) (hd : oT.data = .fields ts) : ∀ b o, h.get? b = some o → (∀ vs, o.data ≠ .fields vs) → b ≠ T := fun b o hb hnf q => by
  rw [q, hT] at hb; injection hb with hb; subst hb; exact hnf ts hd
theorem held_setFlight (H : Held B l e cls a0 fl s.heap) (f : Option Addr) {Q : Unit → Shared → Prop}
    (h : ∀ h' fl', Held B l e cls a0 fl' h' → (f = none → fl' = .none) → s.heap.UpToSlots h' → Q () { s with heap := h' }) : wpAny M A (setFlight (.ref e) f) Q E s := by
  obtain ⟨hkb, hen, hl, oe, vs, T, oT, ts, he, hcls, hd, h1, hnT, hTe, hT, hdT, h3⟩ := H
  have hsz3 : 3 < ts.size := (Array.getElem?_eq_some_iff.mp h3).1
  have other : ∀ b, b ≠ T → (s.heap.update T (Obj.mapFields (·.setIfInBounds 3 (f.elim Value.none fun f => rawInt f)))).get? b = s.heap.get? b := fun b hb => Heap.get?_update_other _ _ (Ne.symm hb)
  unfold setFlight
  refine wpAny_bind (wpAny_field he hd h1 ?_)
  rw [if_pos (show (Value.ref T != Value.none) = true from by simp)]
  refine wpAny_setField hT hdT hsz3 (h _ (f.elim Value.none fun f => rawInt f) ⟨fun b o hbo => (other b fun q => by rw [q, hnT] at hbo; cases hbo).trans (hkb b o hbo), hen,
    hl.of_keeps fun b o hb hnf => ⟨o, (other b (noField hT hdT b o hb hnf)).trans hb, rfl⟩, ?_⟩ (fun z => by subst z; rfl) fun b o hb hnf => ⟨o.slots, (other b (noField hT hdT b o hb hnf)).trans hb⟩)
  exact ⟨oe, vs, T, _, _, (other e (Ne.symm hTe)).trans he, hcls, hd, h1, hnT, hTe, Heap.get?_update_self _ hT (Obj.isFreed_of_fields (Obj.data_mapFields hdT _)), Obj.data_mapFields hdT _, by simp [hsz3]⟩
theorem held_note {env : Env} {outer : List Env} {L : Addr} (hfr : A.frames = some (env :: outer)) (hf : env.frame = some L) (H : Held B (env :: outer) e cls a0 fl s.heap) {Q : Unit → Shared → Prop}
    (h : ∀ h', Held B (env :: outer) e cls a0 (rawInt L) h' → s.heap.UpToSlots h' → Q () { s with heap := h' }) : wpAny M A (noteFrame (.ref e) env) Q E s := by
  by_cases q : fl = rawInt L
  · subst q
    obtain ⟨k1, k2, k3, k4⟩ := H
    exact wpAny_noteFrame_againW hf k4 (h s.heap ⟨k1, k2, k3, k4⟩ (.refl _))
  · obtain ⟨hkb, hen, hl, oe, vs, T, oT, ts, he, ⟨hcls, h0⟩, hd, h1, hnT, hTe, hT, hdT, h3⟩ := H
    subst hcls
    unfold noteFrame
    simp only [hf]
    refine wpAny_bind (wpAny_field he hd h1 ?_)
    rw [if_pos (show (Value.ref T != Value.none) = true from by simp)]
    refine wpAny_bind (wpAny_field hT hdT h3 ?_)
    rw [if_neg (show ¬ ((fl == rawInt L) = true) from by simpa using q)]
    refine wpAny_bind (wpAny_setField hT hdT (Array.getElem?_eq_some_iff.mp h3).1 ?_)
    have other : ∀ b, b ≠ T → (s.heap.update T (Obj.mapFields (·.setIfInBounds 3 Value.none))).get? b = s.heap.get? b := fun b hb => Heap.get?_update_other _ _ (Ne.symm hb)
    refine wpAny_entryW hfr (hl.of_keeps fun b o hb hnf => ⟨o, (other b (noField hT hdT b o hb hnf)).trans hb, rfl⟩) hf ((other e (Ne.symm hTe)).trans he)
      (fun b o hbo => (other b fun q => by rw [q, hnT] at hbo; cases hbo).trans (hkb b o hbo)) hen hd (Array.getElem?_eq_some_iff.mp h1).1 h0 fun h' ⟨x1, x2, x3, x4⟩ => ?_
    exact h h' ⟨x1, hen, x2, x3⟩ fun b o hb hnf => x4 b o ((other b (noField hT hdT b o hb hnf)).trans hb) hnf
theorem held_leaving {env : Env} {outer : List Env} {L : Addr} (hfr : A.frames = some (env :: outer)) (hf : env.frame = some L) (H : Held B (env :: outer) e cls a0 fl s.heap) {Q : Unit → Shared → Prop}
    (h : ∀ h', Held B outer e cls a0 .none h' → s.heap.UpToSlots h' → Q () { s with heap := h' }) : wpAny M A (leaving env (.ref e)) Q E s := by
  unfold leaving
  refine wpAny_bind (held_note hfr hf H fun h' H' u => ?_)
  refine held_setFlight (s := { s with heap := h' }) H' none fun h'' fl' H'' z u' => ?_
  rw [z rfl] at H''
  obtain ⟨k1, k2, ⟨_, _, k3⟩, k4⟩ := H''
  exact h h'' ⟨k1, k2, k3, k4⟩ (u.trans u')
theorem held_passOn {α : Type} {env : Env} {what : String} (H : Held B l e cls a0 fl s.heap) {Q : α → Shared → Prop}
    (h : ∀ h' fl', Held B l e cls a0 fl' h' → s.heap.UpToSlots h' → E (.ref e) { s with heap := h' }) : wpAny M A (PySem.passOn what (.ref e) env : Sem α) Q E s := by
  obtain ⟨hkb, hen, hl, oe, vs, T, oT, ts, he, hcls, hd, h1, hnT, hTe, hT, hdT, h3⟩ := id H
  unfold PySem.passOn
  refine wpAny_bind (wpAny_field he hd h1 ?_)
  rw [if_neg (show ¬ ((Value.ref T == Value.none) = true) from by simp)]
  exact wpAny_bind (held_setFlight H _ fun h' fl' H' Ω u => wpAny_throw (h h' fl' H' u))
end
section
variable {g : Gb} {A : Around} {c : Cx}
theorem frs_keep {l : List Env} (F : FrOk c l) {a : Addr} (h : a ∈ frs l) : a = c.L ∨ ∃ o es n, (a, o) ∈ c.keep ∧ o.data = .dict es n := by
  obtain ⟨env, he, e⟩ := List.mem_filterMap.mp h
  obtain ⟨_, L, h1, _, h2⟩ := F env he
  rw [h1] at e
  cases e
  exact h2
theorem relead {l : List Env} (F : FrOk c l) {σ : AH} {D : Nat → Nat} {led : List (Addr × Obj)} {s : Shared} {B : Heap} (H : Led g σ D led) (W : At c led s) (K : Kp c σ D led)
    (hb : c.base.StaysIn B) (hB : ∀ q ∈ led, q.1 ∉ frs l → B.get? q.1 = some q.2) {h' : Heap} (hk : B.StaysIn h') (u : s.heap.UpToSlots h') :
    ∃ led', Led g σ D led' ∧ At c led' { s with heap := h' } ∧ Kp c σ D led' ∧ ∀ q ∈ led', q.1 ∉ frs l → B.get? q.1 = some q.2 := by
  have own : ∀ a, a ∈ frs l → ¬ Own σ D a := fun a ha => by
    rcases frs_keep F ha with rfl | ⟨o, es, n, m, _⟩
    · have nled : ∀ o, (c.L, o) ∉ led := fun o q => (W.news _ q).2.1 rfl
      rintro (z | ⟨b, C', fs, e, q⟩)
      · exact z (H.none_of nled)
      · obtain ⟨_, es, n, m2, _⟩ := H.obj b _ e
        exact nled _ (q ▸ m2)
    · exact (K _ (List.mem_append_right _ m)).no
  have dict : ∀ q ∈ led, q.1 ∈ frs l → ∃ es n, q.2.data = .dict es n := fun q hq ha => by
    rcases frs_keep F ha with z | ⟨o, es, n, m, d⟩
    · exact absurd z (W.news _ hq).2.1
    · obtain ⟨⟨o', m', kr⟩, _⟩ := K _ (List.mem_append_right _ m)
      have : q.2 = o' := nodup_eq H.nd (a := q.1) hq m'
      exact ⟨es, n, by rw [this, kr.data]; exact d⟩
  have now : ∀ q ∈ led, ∃ o', h'.get? q.1 = some o' ∧ (q.1 ∉ frs l → o' = q.2) ∧ KeepR q.2 o' := fun q hq => by
    by_cases z : q.1 ∈ frs l
    · obtain ⟨es, n, d⟩ := dict q hq z
      obtain ⟨sl, hs⟩ := u q.1 q.2 (W.news q hq).1 fun vs w => by rw [d] at w; cases w
      exact ⟨_, hs, fun w => absurd z w, .inr ⟨es, n, sl, d, rfl⟩⟩
    · exact ⟨q.2, hk _ _ (hB q hq z), fun Ω => rfl, .rfl⟩
  let led' := led.map fun q => (q.1, (h'.get? q.1).getD q.2)
  have keys : led'.map (·.1) = led.map (·.1) := by
    show (led.map _).map _ = _
    rw [List.map_map]; rfl
  have same : ∀ q ∈ led, q.1 ∉ frs l → q ∈ led' := fun q hq z => by
    obtain ⟨o', h1, h2, _⟩ := now q hq
    exact List.mem_map.mpr ⟨q, hq, by rw [h1, h2 z]; rfl⟩
  have back : ∀ q ∈ led', ∃ p ∈ led, p.1 = q.1 ∧ h'.get? q.1 = some q.2 ∧ (q.1 ∉ frs l → q = p) := fun q hq => by
    obtain ⟨p, hp, rfl⟩ := List.mem_map.mp hq
    obtain ⟨o', h1, h2, _⟩ := now p hp
    refine ⟨p, hp, rfl, by rw [h1]; rfl, fun z => ?_⟩
    rw [h1, h2 z]; rfl
  refine ⟨led', ⟨by rw [keys]; exact H.nd, fun b ob eb => ?_, H.inj, H.sep⟩, ⟨⟨u.ns W.fr.ns, fun b o eb => hk _ _ (hb b o eb), W.fr.above⟩, fun q hq => ?_, W.gens, W.drawn, W.os⟩, fun q hq => ?_, fun q hq z => ?_⟩
  · have nb : ∀ a, a ∈ frs l → b ≠ a := fun a ha w => own a ha (.inl (by rw [← w, eb]; simp))
    have nD : ∀ C fs, σ b = some (.inst C fs) → D b ∉ frs l := fun C fs eb ha => own _ ha (.inr ⟨b, C, fs, eb, rfl⟩)
    have z := H.obj b ob eb
    have nb' : b ∉ frs l := fun w => nb b w rfl
    cases ob with
    | list => obtain ⟨vs, n, m, r⟩ := z; exact ⟨vs, n, same _ m nb', r⟩
    | tup => obtain ⟨x, vs, n, m, hc, hd, r⟩ := z; exact ⟨x, vs, n, same _ m nb', hc, hd, r⟩
    | inst C fs => obtain ⟨m, es, n, m2, hC, r⟩ := z; exact ⟨same _ m nb', es, n, same _ m2 (nD _ _ eb), hC, r⟩
    | dict ds => obtain ⟨x, m, nn, r⟩ := z; exact ⟨x, same _ m nb', nn, r⟩
  · obtain ⟨p, hp, e1, e2, _⟩ := back q hq
    exact ⟨e2, e1 ▸ (W.news p hp).2⟩
  · obtain ⟨⟨o1, m, kr⟩, w⟩ := K q hq
    obtain ⟨o', h1, _, kr'⟩ := now _ m
    refine ⟨⟨o', List.mem_map.mpr ⟨_, m, by rw [h1]; rfl⟩, ?_⟩, w⟩
    rcases kr with rfl | ⟨es, n, sl, d, rfl⟩
    · exact kr'
    · rcases kr' with rfl | ⟨_, _, sl', _, rfl⟩
      · exact .inr ⟨es, n, sl, d, rfl⟩
      · exact .inr ⟨es, n, sl', d, rfl⟩
  · obtain ⟨p, hp, e1, _, e3⟩ := back q hq
    rw [e3 z]
    exact hB p hp (e1 ▸ z)
theorem ThC.step {E : EX} {v : Value} {s : Shared} {l : List Env} (F : FrOk c l) (T : ThC g l c E v s) :
    ∃ e B a0 fl, v = .ref e ∧ Held B l e (.ref g.die) a0 fl s.heap ∧ ∀ h' fl', Held B l e (.ref g.die) a0 fl' h' → s.heap.UpToSlots h' → ThC g l c E v { s with heap := h' } := by
  obtain ⟨e, σ, D, led, B, a0, rfl, hE, H, W, K, ⟨fl, HH⟩, hb, hB⟩ := T
  refine ⟨e, B, a0, fl, rfl, HH, fun h' fl' H' u => ?_⟩
  obtain ⟨led', h1, h2, h3, h4⟩ := relead F H W K hb hB H'.1 u
  exact ⟨e, σ, D, led', B, a0, rfl, hE, h1, h2, h3, ⟨fl', H'⟩, hb, h4⟩
theorem Th.step {E : EX} {v : Value} {s : Shared} {l : List Env} (hfr : A.frames = some l) (F : FrOk c l) (T : Th g A c E v s) :
    ∃ e B a0 fl, v = .ref e ∧ Held B l e (.ref g.die) a0 fl s.heap ∧ ∀ h' fl', Held B l e (.ref g.die) a0 fl' h' → s.heap.UpToSlots h' → Th g A c E v { s with heap := h' } := by
  obtain ⟨env, outer, hf, T⟩ := T
  rw [hfr] at hf
  cases hf
  obtain ⟨e, B, a0, fl, h1, h2, k⟩ := T.step F
  exact ⟨e, B, a0, fl, h1, h2, fun h' fl' x u => ⟨env, outer, hfr, k h' fl' x u⟩⟩
end
end
section
set_option tactic.hygienic false
open PySem PySem.W PySem.Calls PyProof.Rows
theorem funFrames_to {h h' B B' : Heap} : ∀ {l : List Env}, h.FunFrames B l → (∀ b, B.get? b = none → B'.get? b = none) → (∀ a ∈ frs l, ∀ o, h.get? a = some o → h'.get? a = some o) → h'.FunFrames B' l
  | [], _, _, _ => trivial
  | env :: r, ⟨h1, ⟨L, o, e1, e2, e3, e4⟩, h2⟩, k1, k2 => by
    have m : L ∈ frs (env :: r) := List.mem_filterMap.mpr ⟨env, .head _, e1⟩
    refine ⟨h1, ⟨L, o, e1, k1 _ e2, k2 _ m _ e3, e4⟩, funFrames_to h2 k1 fun a ha => k2 a ?_⟩
    obtain ⟨x, hx, e⟩ := List.mem_filterMap.mp ha
    exact List.mem_filterMap.mpr ⟨x, .tail _ hx, e⟩
section
variable {g : Gb} {A : Around} {c : Cx}
theorem ThC.leave {C : Addr} {oL : Obj} {m' : Str → Option Value} {k : List (Addr × Obj)} {E : EX} {v : Value} {s : Shared} {l : List Env} (F : FrOk c l) (nL : NsObj oL c.m) (mk : (c.L, oL) ∈ k) (sub : ∀ q ∈ c.all, q ∈ k) (hd : ∀ q ∈ c.all, q.1 ≠ c.L) (ab : c.base.objs.size ≤ c.L)
    (T : ThC g l { base := c.base, L := C, m := m', keep := k, s₀ := c.s₀ } E v s) {h' : Heap} (hs : ∀ b, b ≠ C → h'.get? b = s.heap.get? b) : ThC g l c E v { s with heap := h' } := by
  obtain ⟨e, σ, D, led, B, a0, rfl, hE, H, W, K, ⟨fl, HH⟩, hb, hB⟩ := T
  have K' : ∀ q ∈ k, Kq σ D led q := fun q hq => K q (List.mem_append_right _ hq)
  obtain ⟨⟨o1, m1, kr1⟩, no1⟩ := K' _ mk
  have nC : ∀ q ∈ led, q.1 ≠ C := fun q hq => (W.news q hq).2.1
  have LC : c.L ≠ C := nC _ m1
  have bC : c.base.get? C = none := by
    cases q : c.base.get? C with
    | none => rfl
    | some o => exact absurd (Nat.lt_of_lt_of_le (Heap.lt_size q) W.fr.above) (Nat.lt_irrefl _)
  have kp : ∀ b o, b ≠ C → s.heap.get? b = some o → h'.get? b = some o := fun b o hne eb => (hs b hne).trans eb
  have mf : ∀ q, q ∈ led → q.1 ≠ c.L → q ∈ led.filter (fun q => !decide (q.1 = c.L)) := fun q hq ne => List.mem_filter.mpr ⟨hq, by simpa using ne⟩
  have fm : ∀ q, q ∈ led.filter (fun q => !decide (q.1 = c.L)) → q ∈ led ∧ q.1 ≠ c.L := fun q hq => ⟨(List.mem_filter.mp hq).1, by simpa using (List.mem_filter.mp hq).2⟩
  obtain ⟨oC, eC, esC, epC, dC, _⟩ := Ns.obj W.fr.ns
  obtain ⟨k1, k2, k3, oe, vs, T, oT, ts, he, hcls, hdt, h1, hnT, hTe, hT, hdT, h3⟩ := HH
  have neC : ∀ {a o ws}, s.heap.get? a = some o → o.data = .fields ws → a ≠ C := fun {a o ws} ha hda q => by
    rw [q] at ha; rw [show s.heap.get? C = some oC from eC] at ha; cases ha; rw [dC] at hda; cases hda
  refine ⟨e, σ, D, led.filter (fun q => !decide (q.1 = c.L)), hideAll B [C], a0, rfl, hE, ⟨(List.filter_sublist.map _).nodup H.nd, fun b ob eb => H.notOwn no1 eb mf, H.inj, H.sep⟩, ⟨⟨(nL.keepR kr1).ns (kp _ _ LC (W.news _ m1).1), fun b o eb => kp b o (fun q => by rw [q, bC] at eb; cases eb) (W.fr.keep b o eb), ab⟩, fun q hq => ?_, W.gens, W.drawn, W.os⟩, fun q hq => ?_, ⟨fl, ?_, ?_, ?_, ?_⟩, fun b o eb => ?_, fun q hq z => ?_⟩
  · obtain ⟨q1, q2⟩ := fm q hq
    exact ⟨kp _ _ (nC q q1) (W.news q q1).1, q2, (W.news q q1).2.2⟩
  · obtain ⟨⟨o2, z, kr2⟩, w⟩ := K' q (sub q hq)
    exact ⟨⟨o2, mf _ z (hd q hq), kr2⟩, w⟩
  · intro b o eb
    have nb : b ≠ C := fun q => by rw [q, hideAll_none _ (.head _)] at eb; cases eb
    exact kp b o nb (k1 b o (of_hideAll _ eb))
  · cases q : (hideAll B [C]).get? e with
    | none => rfl
    | some o => have := of_hideAll _ q; rw [k2] at this; cases this
  · refine funFrames_to k3 (fun b hb' => ?_) fun a ha o eo => kp a o ?_ eo
    · cases q : (hideAll B [C]).get? b with
      | none => rfl
      | some o => have := of_hideAll _ q; rw [hb'] at this; cases this
    · rcases frs_keep F ha with rfl | ⟨o', es, n, m, _⟩
      · exact LC
      · obtain ⟨⟨o2, z, _⟩, _⟩ := K' _ (sub _ (List.mem_append_right _ m))
        exact nC _ z
  · refine ⟨oe, vs, T, oT, ts, kp _ _ (neC he hdt) he, hcls, hdt, h1, ?_, hTe, kp _ _ (neC hT hdT) hT, hdT, h3⟩
    cases q : (hideAll B [C]).get? T with
    | none => rfl
    | some o => have := of_hideAll _ q; rw [hnT] at this; cases this
  · exact hideAll_get _ (hb b o eb) fun q => by rw [List.mem_singleton.mp q, bC] at eb; cases eb
  · obtain ⟨q1, q2⟩ := fm q hq
    exact hideAll_get _ (hB q q1 z) fun w => nC q q1 (List.mem_singleton.mp w)
theorem Th.leave {C : Addr} {oL : Obj} {m' : Str → Option Value} {k : List (Addr × Obj)} {E : EX} {v : Value} {s : Shared} {l : List Env} (hfr : A.frames = some l) (F : FrOk c l) (nL : NsObj oL c.m) (mk : (c.L, oL) ∈ k) (sub : ∀ q ∈ c.all, q ∈ k) (hd : ∀ q ∈ c.all, q.1 ≠ c.L) (ab : c.base.objs.size ≤ c.L)
    (T : Th g A { base := c.base, L := C, m := m', keep := k, s₀ := c.s₀ } E v s) {h' : Heap} (hs : Heap.SameBut C s.heap h') : Th g A c E v { s with heap := h' } := by
  obtain ⟨env, outer, hf, T⟩ := T
  rw [hfr] at hf
  cases hf
  exact ⟨env, outer, hfr, ThC.leave F nL mk sub hd ab T fun b hb => hs.2 b hb⟩
end
end
section
set_option tactic.hygienic false
open PySem PySem.W PySem.Calls PyProof.Rows PySem.MeetsSeq
noncomputable def compS (S : Src) (turn : AV → PT) (Q : AV → AH → Prop) (E : EX) : List AV → List AV → AH → Prop
  | [], ys, σ => S.ok σ ∧ ∀ a, σ a = none → Q (.ref a) (σ.put a (.list ys))
  | v :: r, ys, σ => S.ok σ ∧ turn v (fun y σ => compS S turn Q E r (ys ++ [y]) σ) E σ
theorem compS_L {turn : AV → PT} {l : Nat} {xs : List AV} {Q : AV → AH → Prop} {E : EX} : ∀ (r : List AV), compL turn l xs Q E r = compS (.lst l xs) turn Q E r
  | [] => rfl
  | v :: r => by
    funext ys σ
    show (_ ∧ turn _ _ _ _) = (_ ∧ turn _ _ _ _)
    rw [compS_L r]
    rfl
theorem compS_N {turn : AV → PT} {lo : Int} {n : Nat} {Q : AV → AH → Prop} {E : EX} : ∀ (r : List AV), compN turn Q E r = compS (.rng lo n) turn Q E r
  | [] => by
    funext ys σ
    show (∀ a, _ → _) = (True ∧ ∀ a, _ → _)
    rw [true_and]
  | v :: r => by
    funext ys σ
    show turn _ _ _ _ = (True ∧ turn _ _ _ _)
    rw [compS_N r, true_and]
theorem relabel_cell {env : Env} (hk : env.scope.kind = .function) : ∀ {names : List (Str × NameKind)} {x : Str}, names.lookup x = some .free → env.kindOf x = some .cell →
    (names.map fun (n, k) => if (k == NameKind.free && env.scope.kind == .function && env.kindOf n == some .cell) then (n, NameKind.cell) else (n, k)).lookup x = some .cell
  | [], _, h, _ => by simp at h
  | (n, k) :: r, x, h, e => by
    show List.lookup x ((if (k == NameKind.free && env.scope.kind == .function && env.kindOf n == some .cell) = true then (n, NameKind.cell) else (n, k)) :: _) = _
    cases hx : x == n with
    | true =>
      simp only [List.lookup_cons, hx] at h
      cases h
      have : x = n := by simpa using hx
      subst this
      rw [if_pos (by rw [hk, e]; rfl)]
      simp [List.lookup_cons]
    | false =>
      simp only [List.lookup_cons, hx] at h
      have ih := relabel_cell hk (names := r) h e
      split <;> (simp only [List.lookup_cons, hx]; exact ih)
section
variable {g : Gb} {Φ : SemF} {A : Around} {env : Env} {n : Nat} {c : Cx}
structure CompOk (g : Gb) (env : Env) (scope : Scope) (x : Nat) (caps : List Nat) : Prop where
  cell : ∀ y ∈ scope.names, y.2 ≠ .cell
  kind : scope.kind = .function
  names : ∀ y ∈ scope.names, y.2 = .local → scope.names.lookup y.1 = some .local
  var : scope.names.lookup (g.nm x) = some .local
  xN : x < g.nN
  caps : ∀ y ∈ caps, scope.names.lookup (g.nm y) = some .free ∧ env.kindOf (g.nm y) = some .cell
  free : ∀ y ∈ scope.names, y.2 = .free → (env.cells.lookup y.1).isSome = true
theorem mem_of_lookup {l : List (Str × NameKind)} {x : Str} {k : NameKind} (h : l.lookup x = some k) : (x, k) ∈ l := by
  induction l with
  | nil => simp at h
  | cons p r ih =>
    obtain ⟨a, b⟩ := p
    rw [List.lookup_cons] at h
    by_cases q : x = a
    · subst q
      simp at h; subst h
      exact .head _
    · rw [show (x == a) = false from beq_eq_false_iff_ne.mpr q] at h
      exact .tail _ (ih h)
theorem comp_loc {scope : Scope} {x : Nat} {caps : List Nat} (CS : CompOk g env scope x caps) (EO : EnvOk c env) {ρ : Loc} (hρ : LocR g c env ρ) {C : Addr} {m' : Str → Option Value} {k : List (Addr × Obj)} (sub : ∀ q ∈ c.all, q ∈ k) :
    LocR g { base := c.base, L := C, m := m', keep := k, s₀ := c.s₀ } (compEnvC scope (clOf env scope.names) C env) (ρ.only caps) := fun y v e => by
  unfold Loc.only at e
  split at e
  · rename_i hy
    obtain ⟨h1, w, r, t⟩ := hρ y v e
    refine ⟨h1, w, r, ?_⟩
    obtain ⟨f1, f2⟩ := CS.caps y hy
    cases t with
    | «local» k1 k2 => rw [f2] at k1; cases k1
    | free a o k1 k2 k3 k4 => rw [f2] at k1; cases k1
    | cell a o k1 k2 k3 k4 =>
      exact .cell a o (relabel_cell EO.hk f1 f2) (clOf_lookup (mem_of_lookup f1) k2) (List.mem_append_right _ (sub _ k3)) k4
  · cases e
theorem comp_env {scope : Scope} {x : Nat} {caps : List Nat} (CS : CompOk g env scope x caps) (EO : EnvOk c env) {C : Addr} {m' : Str → Option Value} {k : List (Addr × Obj)} :
    EnvOk { base := c.base, L := C, m := m', keep := k, s₀ := c.s₀ } (compEnvC scope (clOf env scope.names) C env) := ⟨CS.kind, rfl, EO.hg, EO.hb⟩
theorem comp_aok (O : AOk g A c n) {C : Addr} {m' : Str → Option Value} {k : List (Addr × Obj)} {oL : Obj} (mk : (c.L, oL) ∈ k) (nL : NsObj oL c.m) (sub : ∀ q ∈ c.keep, q ∈ k) : AOk g A { base := c.base, L := C, m := m', keep := k, s₀ := c.s₀ } n := by
  refine ⟨O.hA, O.rm, O.st, ?_⟩
  obtain ⟨env, outer, e, fr⟩ := O.fr
  refine ⟨env, outer, e, fun e he => ?_⟩
  obtain ⟨h1, L, h2, h3, h4⟩ := fr e he
  refine ⟨h1, L, h2, h3, .inr ?_⟩
  obtain ⟨es, ep, d, _⟩ := nL
  rcases h4 with rfl | ⟨o, es, n, m, d⟩
  · exact ⟨oL, es, ep, mk, d⟩
  · exact ⟨o, es, n, sub _ m, d⟩
theorem noteFrame_frame {e₁ e₂ : Env} (h : e₁.frame = e₂.frame) (v : Value) : noteFrame v e₁ = noteFrame v e₂ := by
  unfold noteFrame PySem.frameOf; rw [h]
inductive TopF (A : Around) (fr : Option Addr) : Prop | mk (env0 : Env) (outer : List Env) (L : Addr) (h : A.frames = some (env0 :: outer)) (h1 : env0.frame = fr) (h2 : fr = some L)
noncomputable def Top (A : Around) (env : Env) : Prop := TopF A env.frame
theorem Th.note {c : Cx} {n : Nat} (O : AOk g A c n) {env e₂ : Env} (TP : Top A env) (he : e₂.frame = env.frame) {E : EX} {v : Value} {s : Shared} {Er : Value → Shared → Prop} (T : Th g A c E v s) {Q : Unit → Shared → Prop}
    (h : ∀ s', Th g A c E v s' → Q () s') : wpAny (model g.prog g.w) A (noteFrame v e₂) Q Er s := by
  obtain ⟨env0, outer, hfr, FR⟩ := O.fr
  obtain ⟨env1, outer1, L, hfr1, e1, e3⟩ := TP
  rw [hfr] at hfr1; cases hfr1
  obtain ⟨e, B, a0, fl, rfl, H, k⟩ := T.step hfr FR
  rw [noteFrame_frame (he.trans e1.symm)]
  exact held_note hfr (e1.trans e3) H fun h' H' u => h _ (k h' _ H' u)
inductive CompI (g : Gb) (S : Src) (turn : AV → PT) (Q : AV → AH → Prop) (E : EX) (cc : (Str → Option Value) → Obj → List Value → Nat → Cx) (m : Nat) (s : Shared) : Prop
  | mk (i : Nat) (m' : Str → Option Value) (oI : Obj) (vs : List Value) (ys : List AV) (nA : Nat) (σ : AH) (hm : m = S.items.length + 1 - i) (hi : i ≤ S.items.length) (ho : S.obj i oI) (r : VRs vs ys) (hl : ys.length = i) (I : Inv g (cc m' oI vs nA) σ s) (h : compS S turn Q E (S.items.drop i) ys σ)
theorem compCore {S : Src} {elt : X} {elte iter : Expr} {x : Nat} {caps : List Nat} {scope : Scope} {p pos : Pos} {ifs : List Expr} (hif : S.items = [] ∨ ifs = []) (CS : CompOk g env scope x caps) (hel : ∀ C, AllE g Φ A n (compEnvC scope (clOf env scope.names) C env) elt elte)
    (O : AOk g A c n) (TP : Top A env) (EO : EnvOk c env) {ρ : Loc} (hρ : LocR g c env ρ) {σ : AH} {s : Shared} {a : Addr} {o : Obj} (ho : S.obj 0 o) (nk : ∀ q ∈ c.all, q.1 ≠ a) (I : Inv g (c.kp ((a, o) :: c.keep)) σ s) (hz : S.items.length ≤ 10000)
    {Q : AV → AH → Prop} {E : EX} (h : compS S (fun v Q E σ => ev Φ elt ((ρ.only caps).put x v) Q E σ) Q E S.items [] σ)
    {R : Value → Addr → Result → Shared → Prop} {Er : Value → Shared → Prop}
    (hok : ∀ D C oC m' σ' s', NsObj oC m' → (∀ q ∈ c.all, q.1 ≠ C) → Inv g (c.kp ((C, oC) :: c.keep)) σ' s' → Q (.ref D) σ' → R (.ref D) C (.ok .next) s')
    (herr : ∀ D C v s', (∃ m, s'.heap.Ns C m) → (∀ h', Heap.SameBut C s'.heap h' → Th g A c E v { s' with heap := h' }) → R (.ref D) C (.error v) s') :
    wpAny (model g.prog g.w) A (newList []) (fun acc s₃ => wpAny (model g.prog g.w) A (newFunctionEnv scope env.globals (clOf env scope.names) [] env.qual none .none (some env)) (fun cenv s₄ =>
      codeAny (model g.prog g.w) A (.compStart (.ListComp elte [⟨.Name (g.nm x) p, iter, ifs, 0⟩] scope pos) 0 (.ref a) acc { cenv with scope := relabel scope env }) (R acc cenv.locals) s₄) Er s₃) Er s := by
  obtain ⟨env0, outer, hfr, FR⟩ := O.fr
  refine wpAny_newList ?_
  -- the accumulator
  obtain ⟨I1, nk1, _⟩ := I.newK (tk := s.toks) (get_size s.heap) (fun b o e => Heap.get?_push_of_some _ e) (Heap.get?_push_size (o := listOf ([] : List Value).toArray 0) s.heap rfl)
  refine wpAny_newFunctionEnv CS.cell (by intro y hy; cases hy) (fun h₁ hns₁ hsb₁ => ?_) CS.kind
  have hacc0 : s.heap.push { cls := .type "list", data := .seq ([] : List Value).toArray } = s.heap.push (listOf ([] : List Value).toArray 0) := rfl
  rw [hacc0] at hns₁ hsb₁ ⊢
  -- the new frame's dict
  obtain ⟨oC, eC, nC⟩ := Ns.obj hns₁
  have ext : ∀ b ob, (s.heap.push (listOf ([] : List Value).toArray 0)).get? b = some ob → h₁.get? b = some ob := fun b ob eb =>
    hsb₁.extBut b ob (fun q => by have := Heap.lt_size eb; rw [q] at this; exact Nat.lt_irrefl _ this) (Heap.get?_push_of_some _ eb)
  obtain ⟨I2, nk2, _⟩ := I1.newK (tk := s.toks + ([] : List (Str × Value)).length) (get_size _) ext eC
  have Fs := I.fr
  have low : c.base.objs.size ≤ (s.heap.push (listOf ([] : List Value).toArray 0)).objs.size := by
    obtain ⟨o', _, _, e', _⟩ := Fs.ns
    have h1 : c.L < s.heap.objs.size := Heap.lt_size e'
    have h2 : c.base.objs.size ≤ c.L := Fs.above
    have h3 := Heap.size_push s.heap (listOf ([] : List Value).toArray 0)
    rw [h3]
    exact Nat.le_trans h2 (Nat.le_trans (Nat.le_of_lt h1) (Nat.le_succ _))
  generalize hC : (s.heap.push (listOf ([] : List Value).toArray 0)).objs.size = C at *
  generalize hacc : s.heap.objs.size = acc at *
  obtain ⟨oL, nL, LC, ndL, I3⟩ := I2.swap nC low nk2
  -- who is who
  have aacc : a ≠ acc := nk1 (a, o) (mem_all.mpr (.inr (.head _)))
  have allacc : ∀ q ∈ c.all, q.1 ≠ acc := fun q hq => nk1 q (mem_all.mpr ((List.mem_append.mp hq).imp id fun z => .tail _ z))
  have allL : ∀ q ∈ c.all, q.1 ≠ c.L := fun q hq => ndL q (List.mem_append.mpr ((List.mem_append.mp hq).imp id fun z => .tail _ (.tail _ z)))
  have allC : ∀ q ∈ c.all, q.1 ≠ C := fun q hq => nk2 q (mem_all.mpr ((List.mem_append.mp hq).imp id fun z => .tail _ (.tail _ z)))
  have accL : acc ≠ c.L := ndL (acc, _) (List.mem_append_right _ (.head _))
  have aL : a ≠ c.L := ndL (a, o) (List.mem_append_right _ (.tail _ (.head _)))
  let kk : Obj → List Value → Nat → List (Addr × Obj) := fun oI vs nA => (a, oI) :: (acc, listOf vs.toArray nA) :: (c.L, oL) :: c.all
  let cc : (Str → Option Value) → Obj → List Value → Nat → Cx := fun m' oI vs nA => { base := c.base, L := C, m := m', keep := kk oI vs nA, s₀ := c.s₀ }
  have sub : ∀ oI vs nA, ∀ q ∈ c.all, q ∈ kk oI vs nA := fun oI vs nA q hq => .tail _ (.tail _ (.tail _ hq))
  have hdI : ∀ (vs : List Value) (nA : Nat), ∀ q ∈ ([] : List (Addr × Obj)) ++ ((acc, listOf vs.toArray nA) :: (c.L, oL) :: c.all), q.1 ≠ a := fun vs nA => ne_c (Ne.symm aacc) (ne_c (Ne.symm aL) nk)
  have hdA : ∀ (oI : Obj), ∀ q ∈ ([] : List (Addr × Obj)) ++ ((a, oI) :: (c.L, oL) :: c.all), q.1 ≠ acc := fun oI => ne_c aacc (ne_c (Ne.symm accL) allacc)
  have I4 : Inv g (cc (fun x => ([] : List (Str × Value)).reverse.lookup x) o [] 0) σ { s with heap := h₁, toks := s.toks + ([] : List (Str × Value)).length } := I3.perm rfl rfl rfl rfl fun q hq => mem_r3 hq
  -- the loop
  have loop : codeAny (model g.prog g.w) A (.compLoop (.ListComp elte [⟨.Name (g.nm x) p, iter, ifs, 0⟩] scope pos) 0 (.ref a) (.ref acc) (compEnvC scope (clOf env scope.names) C env)) (R (.ref acc) C) { s with heap := h₁, toks := s.toks + ([] : List (Str × Value)).length } := by
    refine codeAny_compLoop_tests (CompI g S (fun v Q E σ => ev Φ elt ((ρ.only caps).put x v) Q E σ) Q E cc) ?_ (S.items.length + 1) ⟨0, _, o, [], [], 0, σ, rfl, Nat.zero_le _, ho, .nil, rfl, I4, h⟩
    rintro m s' ⟨i, m', oI, vs, ys, nA, σ', rfl, hi, hoI, rs, hlen, I', h'⟩
    have I'' : Inv g (({ base := c.base, L := C, m := m', keep := [], s₀ := c.s₀ } : Cx).kp ((a, oI) :: (acc, listOf vs.toArray nA) :: (c.L, oL) :: c.all)) σ' s' := I'
    cases hx' : S.items[i]? with
    | none =>
      have : S.items.drop i = [] := List.drop_eq_nil_of_le (by simpa using hx')
      rw [this] at h'
      refine next_end O.hA I'' (hdI vs nA) hoI h'.1 hx' fun s2 J => ?_
      have hd2 : ∀ q ∈ ([] : List (Addr × Obj)) ++ ((c.L, oL) :: c.all), q.1 ≠ acc := fun q hq => hdA o q (.tail _ hq)
      obtain ⟨ha, J2⟩ := J.claimL hd2 rs
      obtain ⟨oC2, nC2, _, _, J3⟩ := Inv.swap (c := { base := c.base, L := C, m := m', keep := [], s₀ := c.s₀ }) J2 nL Fs.above (fun q hq => allL q hq)
      refine hok acc C oC2 m' _ s2 nC2 allC (J3.perm rfl rfl rfl rfl fun q hq => ?_) (h'.2 acc ha)
      rcases mem_all.mp hq with hq | hq
      · exact List.mem_append_right _ (.tail _ (List.mem_append_left _ hq))
      · rcases List.mem_cons.mp hq with rfl | hq
        · exact List.mem_append_right _ (.head _)
        · exact List.mem_append_right _ (.tail _ (List.mem_append_right _ hq))
    | some v =>
      have hlt : i < S.items.length := (List.getElem?_eq_some_iff.mp hx').1
      have hdr : S.items.drop i = v :: S.items.drop (i + 1) := by
        rw [List.drop_eq_getElem_cons hlt]
        rw [List.getElem?_eq_getElem hlt] at hx'
        cases hx'; rfl
      rw [hdr] at h'
      obtain ⟨hS, h'⟩ := h'
      refine next_item I'' (hdI vs nA) hoI hS hx' fun w o2 s2 r ho2 J => ?_
      have J1 : Inv g (cc m' o2 vs nA) σ' s2 := J
      refine wpAny_assign_Name (storeL (comp_env CS EO) O.st (comp_loc CS EO hρ (sub o2 vs nA)) J1 r CS.xN (lookup_relabel_local CS.var) fun m2 s3 hρ3 J3 => ?_)
      have J3' : Inv g (cc m2 o2 vs nA) σ' s3 := J3
      rcases hif with z | rfl
      · rw [z] at hlt; cases hlt
      refine wpAny_tests_nil ?_
      show wpAny _ _ _ _ _ _
      have AO : AOk g A (cc m2 o2 vs nA) n := comp_aok O (.tail _ (.tail _ (.head _))) nL fun q hq => sub o2 vs nA q (List.mem_append_right _ hq)
      refine wpAny_mono (hel C (cc m2 o2 vs nA) AO (comp_env CS EO) _ hρ3 _ _ σ' s3 J3' h') (fun y s4 h4 => ?_) fun e s4 T4 => ?_
      · obtain ⟨y', σ4, r4, J4, q4⟩ := h4
        have J5 : Inv g (({ base := c.base, L := C, m := m2, keep := [], s₀ := c.s₀ } : Cx).kp ((acc, listOf vs.toArray nA) :: (a, o2) :: (c.L, oL) :: c.all)) σ4 s4 := J4.perm rfl rfl rfl rfl fun q hq => mem_sw hq
        have hL : IsL s4.heap acc vs.toArray nA := kept_at J5 fun es n e => by cases e
        have hv : vs.length = i := rs.length.trans hlen
        refine call_meets F.slot_list_append ⟨_, hL, rfl⟩ F.entry_list_append (F.args_list_append_2 _ _) (PySem.list_append acc vs.toArray nA y (by rw [List.size_toArray, hv]; unfold sizeLine; lia)) ⟨hL, ?_⟩
        have J6 := J5.setK (tk := s4.toks) (hdA o2) (Heap.SameBut.update (h := s4.heap) (a := acc) (f := Obj.mapSeq fun x => x.push y)).extBut (hL.update fun x => x.push y)
        refine ⟨S.items.length + 1 - (i + 1), by lia, i + 1, m2, o2, vs ++ [y], ys ++ [y'], (if ((vs.toArray).push y).size == vs.toArray.size then nA else nA + 1), σ4, rfl, hlt, ho2, rs.append (.cons r4 .nil), by rw [List.length_append, hlen]; rfl, ?_, q4⟩
        refine J6.perm rfl rfl rfl rfl fun q hq => ?_
        have hq := mem_sw hq
        rw [show (vs ++ [y]).toArray = vs.toArray.push y by simp] at hq
        exact hq
      · -- the element raises
        refine T4.note AO TP (e₂ := compEnvC scope (clOf env scope.names) C env) rfl fun s5 T5 => ?_
        refine herr acc C e s5 ?_ fun h' hs => Th.leave hfr FR nL (k := kk o2 vs nA) (.tail _ (.tail _ (.head _))) (sub o2 vs nA) allL Fs.above T5 hs
        obtain ⟨_, _, _, _, _, _, _, _, _, _, _, _, W, _⟩ := T5
        exact ⟨_, W.fr.ns⟩
  exact codeAny_compStart_list loop (by
    cases S with
    | lst l xs =>
      obtain ⟨h1, h2⟩ := ho
      exact wpAny_pyIter_listiter ⟨o, kept_at (c := { base := c.base, L := C, m := fun x => ([] : List (Str × Value)).reverse.lookup x, keep := [], s₀ := c.s₀ }) I4 (fun es n e => by rw [h2] at e; cases e), h1, h2⟩ loop
    | rng lo n =>
      have ho' : o = _ := ho
      have at_ := kept_at (c := { base := c.base, L := C, m := fun x => ([] : List (Str × Value)).reverse.lookup x, keep := [], s₀ := c.s₀ }) I4 (fun es n e => by rw [ho'] at e; cases e)
      have hT : Shared.TypeIs { s with heap := h₁, toks := s.toks + ([] : List (Str × Value)).length } (.ref a) "range_iterator" := ⟨o, at_, by rw [ho']⟩
      refine wpAny_pyIter_slot hT F.slot_range_iterator_iter (wpAny_call_entry F.slot_range_iterator_iter hT F.entry_range_iterator_iter ?_ (F.args_range_iterator_iter_1 _))
      show wpAny _ _ (ret (.ref a)) _ _ _
      exact wpAny_pure ⟨_, rfl, "range_iterator", _, hT, F.slot_range_iterator_next.lookup, loop⟩)
end
end
section
set_option tactic.hygienic false
open PySem PySem.W PySem.Calls PyProof.Rows
section
variable {g : Gb} {Φ : SemF} {A : Around} {env : Env} {n : Nat} {c : Cx}
theorem compS_mono {S : Src} {turn : AV → PT} {Q : AV → AH → Prop} {E : EX} : True := trivial
inductive Ground (g : Gb) (Φ : SemF) (c : Cx) (elt : X) (x : Nat) (caps : List Nat) (ifs : List Expr) (ρ : Loc) (Q : AV → AH → Prop) (E : EX) (it : Value) (s : Shared) : Prop
  | mk (S : Src) (a : Addr) (o : Obj) (σ : AH) (hif : S.items = [] ∨ ifs = []) (e : it = .ref a) (ho : Src.obj S 0 o) (nk : ∀ q ∈ c.all, q.1 ≠ a) (I : Inv g (c.kp ((a, o) :: c.keep)) σ s) (hz : S.items.length ≤ 10000) (h : compS S (fun v Q E σ => ev Φ elt ((ρ.only caps).put x v) Q E σ) Q E S.items [] σ)
theorem comp_any {elt : X} {elte iter : Expr} {x : Nat} {caps : List Nat} {scope : Scope} {p pos pos' : Pos} {ifs : List Expr} (CS : CompOk g env scope x caps) (hel : ∀ C, AllE g Φ A n (compEnvC scope (clOf env scope.names) C env) elt elte)
    (O : AOk g A c n) (TP : Top A env) (EO : EnvOk c env) {ρ : Loc} (hρ : LocR g c env ρ) {Q : AV → AH → Prop} {E : EX} {use : Option (Value → Sem Unit)} {P : Value → Shared → Prop} {Er : Value → Shared → Prop} {s : Shared} (hp : plainR iter = true)
    (h : wpAny (model g.prog g.w) A (eval iter env) (fun xv s₁ => wpAny (model g.prog g.w) A (pyIter xv) (Ground g Φ c elt x caps ifs ρ Q E) Er s₁) Er s)
    (hE : ∀ v s, Th g A c E v s → Er v s)
    (hok : ∀ D C oC m' σ' s', NsObj oC m' → (∀ q ∈ c.all, q.1 ≠ C) → Inv g (c.kp ((C, oC) :: c.keep)) σ' s' → Q (.ref D) σ' → compPost (model g.prog g.w) A Er use P (.ref D) C (.ok .next) s') :
    wpAny (model g.prog g.w) A (comprehension (.ListComp elte [⟨.Name (g.nm x) p, iter, ifs, 0⟩] scope pos) scope env pos' (newList []) false (eval iter env) use) P Er s := by
  refine wpAny_comprehension_free rfl (folded_of hp env) (closure_of CS.free) CS.kind CS.names (wpAny_mono h (fun xv s₁ h₁ => wpAny_mono h₁ (fun it s₂ h₂ => ?_) fun Ω Ω t => t) fun Ω Ω t => t)
  obtain ⟨S, a, o, σ, hif, rfl, ho, nk, I, hz, hc⟩ := h₂
  refine compCore (R := fun acc C r s' => compPost (model g.prog g.w) A Er use P acc C r s') hif CS hel O TP EO hρ ho nk I hz hc hok fun D C v s' hm T => ?_
  obtain ⟨env0, outer, hfr, FR⟩ := O.fr
  have fin : ∃ m, s'.heap.Ns C m ∧ ∀ h', Heap.SameBut C s'.heap h' → ∀ cenv : Env, cenv.locals = C → wpAny (model g.prog g.w) A (PySem.passOn "comprehension.variables-let-go" v cenv : Sem Value) (fun Ω Ω => False) Er { s' with heap := h' } := by
    obtain ⟨m, hm⟩ := hm
    refine ⟨m, hm, fun h' hs cenv Ω => ?_⟩
    obtain ⟨e, B, a0, fl, rfl, H, k⟩ := (T h' hs).step hfr FR
    exact held_passOn H fun h'' fl' H' u => hE _ _ (k h'' fl' H' u)
  cases use <;> exact fin
theorem Ns.sameBut' {h h' : Heap} {a b : Addr} {m : Str → Option Value} (hn : h.Ns a m) : True := trivial
theorem kp_self (c : Cx) : c.kp c.keep = c := rfl
theorem kept_ns {C : Addr} {oC : Obj} {m' : Str → Option Value} {k : List (Addr × Obj)} {σ : AH} {s : Shared} (I : Inv g (c.kp ((C, oC) :: k)) σ s) (nC : NsObj oC m') : s.heap.Ns C m' := by
  obtain ⟨D, led, H, W, K⟩ := I
  obtain ⟨⟨o1, m, kr⟩, _⟩ := K (C, oC) (mem_all.mpr (.inr (.head _)))
  exact (nC.keepR kr).ns (W.news _ m).1
theorem comp_value {elt : X} {elte iter : Expr} {x : Nat} {caps : List Nat} {scope : Scope} {p pos : Pos} {ifs : List Expr} (CS : CompOk g env scope x caps) (hel : ∀ C, AllE g Φ A n (compEnvC scope (clOf env scope.names) C env) elt elte)
    (O : AOk g A c n) (TP : Top A env) (EO : EnvOk c env) {ρ : Loc} (hρ : LocR g c env ρ) {Q : AV → AH → Prop} {E : EX} {s : Shared} (hp : plainR iter = true)
    (h : wpAny (model g.prog g.w) A (eval iter env) (fun xv s₁ => wpAny (model g.prog g.w) A (pyIter xv) (Ground g Φ c elt x caps ifs ρ Q E) (Th g A c E) s₁) (Th g A c E) s) :
    wpAny (model g.prog g.w) A (eval (.ListComp elte [⟨.Name (g.nm x) p, iter, ifs, 0⟩] scope pos) env) (PV g c Q) (Th g A c E) s := by
  rw [eval_ListComp]
  refine comp_any (use := none) CS hel O TP EO hρ hp h (fun Ω Ω t => t) fun D C oC m' σ' s' nC allC I q => ?_
  refine ⟨m', kept_ns I nC, fun h' hs => ?_⟩
  have := I.dropK (tk := s'.toks) allC hs.extBut
  exact ⟨_, σ', .ref D, this, q⟩
theorem okE_comp {elt src : X} {elte iter : Expr} {x : Nat} {caps : List Nat} {scope : Scope} {p pos : Pos} (O : AOk g A c n) (TP : Top A env) (EO : EnvOk c env) (CS : CompOk g env scope x caps) (hel : ∀ C, AllE g Φ A n (compEnvC scope (clOf env scope.names) C env) elt elte)
    (hs : OkE g Φ A c env src iter) (hp : plainR iter = true) : OkE g Φ A c env (.comp elt x caps src) (.ListComp elte [⟨.Name (g.nm x) p, iter, [], 0⟩] scope pos) := by
  intro ρ hρ Q E σ s I hh
  refine comp_value CS hel O TP EO hρ hp (wpAny_mono (hs ρ hρ _ E σ s I hh) (fun v s₁ h₁ => ?_) fun Ω Ω t => t)
  obtain ⟨_, σ₁, r, I₁, l, xs, rfl, hl, hz, q⟩ := h₁
  cases r
  rw [compS_L] at q
  exact iter_list I₁ hl fun a o s₂ ho nk Ω I₂ => ⟨.lst l xs, a, o, σ₁, .inr rfl, rfl, ho, nk, I₂, hz, q⟩
theorem okE_compE {src : X} {elte iter : Expr} {x : Nat} {scope : Scope} {p pos : Pos} {ifs : List Expr} (O : AOk g A c n) (TP : Top A env) (EO : EnvOk c env) (CS : CompOk g env scope x [])
    (hs : OkE g Φ A c env src iter) (hp : plainR iter = true) : OkE g Φ A c env (.compE src) (.ListComp elte [⟨.Name (g.nm x) p, iter, ifs, 0⟩] scope pos) := by
  intro ρ hρ Q E σ s I hh
  refine comp_value (Φ := Φ) (elt := .bad) CS (fun C c O E ρ hρ Q E σ s I hh => hh.elim) O TP EO hρ hp (wpAny_mono (hs ρ hρ _ E σ s I hh) (fun v s₁ h₁ => ?_) fun Ω Ω t => t)
  obtain ⟨_, σ₁, r, I₁, l, rfl, hl, q⟩ := h₁
  cases r
  exact iter_list I₁ hl fun a o s₂ ho nk Ω I₂ => ⟨.lst l [], a, o, σ₁, .inl rfl, rfl, ho, nk, I₂, Nat.zero_le _, hl, q⟩
theorem range_eval1 (O : AOk g A c n) (EO : EnvOk c env) {y : X} {e : Expr} {id : Str} {p pos : Pos} (hg : GlobN g env id (.type "range")) (h1 : AllE g Φ A n env y e) (hp : plainArgs [e] = true) {ρ : Loc} (hρ : LocR g c env ρ) {E : EX} {P : AV → AH → Prop} {σ : AH} {s : Shared} (I : Inv g c σ s)
    (h : ev Φ y ρ P E σ) (hP : ∀ u σ, P u σ → ∃ j, u = .int j) {Q : Value → Shared → Prop}
    (k : ∀ r j t u v σ s, IsRange s.heap r 0 j 1 t u v → Inv g c σ s → P (.int j) σ → Q (.ref r) s) :
    wpAny (model g.prog g.w) A (eval (.Call (.Name id p) [e] [] pos) env) Q (Th g A c E) s := by
  refine wpAny_Call_Name_kw (name_glob O.st EO I hg ?_)
  refine callWith_1 kept_type hp (I.X O.st) (wpAny_mono (h1 c O EO ρ hρ _ _ σ s I h) (fun v s₁ h₁ => ?_) fun Ω Ω t => t)
  obtain ⟨_, σ₁, r, I₁, q⟩ := h₁
  refine ⟨I₁.X O.st, ?_⟩
  obtain ⟨j, rfl⟩ := hP _ _ q
  cases r
  exact call_range_1 (k _ j _ _ _ σ₁ _ (IsRange.new ..) (I₁.keeps fun Ω Ω e => Heap.get?_push_of_some _ e) q)
theorem okE_compR {elt y : X} {elte e : Expr} {x : Nat} {caps : List Nat} {scope : Scope} {id : Str} {p p' p'' pos : Pos} (O : AOk g A c n) (TP : Top A env) (EO : EnvOk c env) (CS : CompOk g env scope x caps) (hel : ∀ C, AllE g Φ A n (compEnvC scope (clOf env scope.names) C env) elt elte)
    (hg : GlobN g env id (.type "range")) (hy : AllE g Φ A n env y e) (hpl : plainArgs [e] = true) : OkE g Φ A c env (.compR elt x caps y) (.ListComp elte [⟨.Name (g.nm x) p, .Call (.Name id p') [e] [] p'', [], 0⟩] scope pos) := by
  intro ρ hρ Q E σ s I hh
  refine comp_value CS hel O TP EO hρ rfl (wpAny_mono (range_eval1 O EO hg hy hpl hρ I hh (fun u σ ⟨k, e2, _⟩ => ⟨k, e2⟩)
    (Q := fun v s => ∃ r k t u w σ, v = .ref r ∧ IsRange s.heap r 0 k 1 t u w ∧ Inv g c σ s ∧ -lim ≤ k ∧ k ≤ lim ∧ compN (fun v Q E σ => ev Φ elt ((ρ.only caps).put x v) Q E σ) Q E (intsR 0 k) [] σ) fun r j t u w σ s hr I ⟨k, e2, b1, b2, q⟩ => ?_) (fun v s₁ h₁ => ?_) fun Ω Ω t => t)
  · cases e2
    exact ⟨r, j, t, u, w, σ, rfl, hr, I, b1, b2, q⟩
  · obtain ⟨r, k, t, u, w, σ₁, rfl, hr, I₁, b1, b2, q⟩ := h₁
    have lz : lim = 10000 := rfl
    rw [intsR_items, compS_N (lo := 0) (n := (k - 0).toNat)] at q
    exact range_iter I₁ hr (by lia) ⟨b1, b2⟩ fun a o s₂ ho nk Ω I₂ => ⟨.rng 0 (k - 0).toNat, a, o, σ₁, .inr rfl, rfl, ho, nk, I₂, by simp [Src.items]; lia, q⟩
theorem okS_assignC {y : Nat} {elt src : X} {elte iter : Expr} {x : Nat} {caps : List Nat} {scope : Scope} {p py pos spos : Pos} (TP : Top A env) (CS : CompOk g env scope x caps) (hel : ∀ C, AllE g Φ A n (compEnvC scope (clOf env scope.names) C env) elt elte)
    (hp : plainR iter = true) (hyN : y < g.nN) (hyk : env.kindOf (g.nm y) = some .local) (hline : (py.line == pos.line) = true) (hnot : (scope.names.any fun (n, k) => n == g.nm y && (k == .local || k == .cell)) = false)
    {e : X} (hg : ∀ c, AOk g A c n → EnvOk c env → CellOk c env → ∀ ρ Q E σ s, LocR g c env ρ → Inv g c σ s → ev Φ e ρ Q E σ →
      wpAny (model g.prog g.w) A (eval iter env) (fun xv s₁ => wpAny (model g.prog g.w) A (pyIter xv) (Ground g Φ c elt x caps [] ρ Q E) (Th g A c E) s₁) (Th g A c E) s) :
    OkS g Φ A n env (.assign y e) (.Assign [.Name (g.nm y) py] (.ListComp elte [⟨.Name (g.nm x) p, iter, [], 0⟩] scope pos) spos) := by
  intro c O EO CO ρ k σ s hρ I hh
  have sw : swapsWith (.ListComp elte [⟨.Name (g.nm x) p, iter, [], 0⟩] scope pos) (some (.Name (g.nm y) py)) spos.line env = pure true := by
    show (pure (env.blockKind == .function && env.kindOf (g.nm y) == some .local && py.line == pos.line && !(scope.names.any fun (n, k) => n == g.nm y && (k == .local || k == .cell))) : Sem Bool) = pure true
    have b : env.blockKind = .function := by unfold Env.blockKind; rw [EO.hk]; rfl
    rw [b, hyk, hline, hnot]; rfl
  rw [exec_Assign_Name_used _ _ _ _ sw]
  refine wpAny_bind (wpAny_standAt (wpAny_bind ?_))
  show wpAny _ A (do let _ ← comprehension (.ListComp elte [⟨.Name (g.nm x) p, iter, [], 0⟩] scope pos) scope env _ (newList []) false (eval iter env) (some (assign (.Name (g.nm y) py) env))) _ _ s
  refine wpAny_bind (wpAny_mono (comp_any (Er := TF g A c env k) (use := some (assign (.Name (g.nm y) py) env)) (P := fun Ω s' => PF g c env k .next s') CS hel O TP EO hρ hp
    (wpAny_mono (hg c O EO CO ρ _ _ σ s hρ I hh) (fun v s₁ h₁ => wpAny_mono h₁ (fun Ω Ω t => t) fun Ω Ω t => .th CO hρ t) fun Ω Ω t => .th CO hρ t) (fun Ω Ω t => .th CO hρ t) fun D C oC m' σ' s' nC allC I' q => ?_) (fun Ω s' hq => wpAny_pure (wpAny_pure hq)) fun Ω Ω t => t)
  show wpAny _ A (assign (.Name (g.nm y) py) env (.ref D)) _ _ _
  refine wpAny_assign_Name (storeL (c := c.kp ((C, oC) :: c.keep)) (kp_env EO) O.st (kp_loc hρ fun q hq => .tail _ hq) I' (.ref D) hyN hyk fun m2 s2 hρ2 I2 => ?_)
  have ni : NotIn env C := notIn_of CO allC
  refine ⟨m', kept_ns (c := { c with m := m2 }) I2 nC, fun h' hs => ?_⟩
  have I3 := Inv.dropK (c := { c with m := m2 }) (tk := s2.toks) I2 allC hs.extBut
  exact ⟨{ c with m := m2 }, _, σ', ⟨rfl, rfl, rfl, rfl, rfl⟩, ⟨CO.own, CO.data, CO.inj, CO.nd, CO.there⟩, un_loc (c' := { c with m := m2 }) hρ2 ni, I3, q⟩
end
end
section
set_option tactic.hygienic false
open PySem PySem.W PySem.Calls PyProof.Rows
theorem lookup_zip {names : List Str} (nd : names.Nodup) : ∀ {vals : List Value}, names.length = vals.length → (names.filterMap fun n => ((names.zip vals).lookup n).map (n, ·)) = names.zip vals := by
  have gen : ∀ (r : List Str) (vals : List Value) (f : Str → Option Value), r.length = vals.length → r.Nodup → (∀ n ∈ r, f n = (r.zip vals).lookup n) → (r.filterMap fun n => (f n).map (n, ·)) = r.zip vals := by
    intro r
    induction r with
    | nil => intro vals f _ _ _; rfl
    | cons a r ih =>
      intro vals f h nd hf
      cases vals with
      | nil => simp at h
      | cons v vs =>
        rw [List.nodup_cons] at nd
        have fa : f a = some v := by rw [hf a (.head _), List.zip_cons_cons, List.lookup_cons, beq_self_eq_true]
        rw [List.zip_cons_cons, List.filterMap_cons, fa]
        show (a, v) :: _ = _
        rw [ih vs f (by simpa using h) nd.2 fun n hn => ?_]
        have : (n == a) = false := beq_eq_false_iff_ne.mpr fun e => nd.1 (e ▸ hn)
        rw [hf n (.tail _ hn), List.zip_cons_cons, List.lookup_cons, this]
  intro vals h
  exact gen names vals _ h nd fun Ω Ω => rfl
theorem lookup_zip_some {names : List Str} : ∀ {vals : List Value} {n : Str}, n ∈ names.take vals.length → ((names.zip vals).lookup n).isSome = true := by
  induction names with
  | nil => intro vals n h; simp at h
  | cons a r ih =>
    intro vals n h
    cases vals with
    | nil => simp at h
    | cons v vs =>
      rw [List.zip_cons_cons, List.lookup_cons]
      by_cases q : n = a
      · subst q; simp
      · rw [show (n == a) = false from beq_eq_false_iff_ne.mpr q]
        refine ih ?_
        simp at h
        rcases h with h | h
        · exact absurd h q
        · exact h
structure PlainP (p : Arguments) (names : List Str) : Prop where
  po : p.posonlyargs = []
  ar : p.args.map (·.arg) = names
  va : p.vararg = none
  ko : p.kwonlyargs = []
  kw : p.kwarg = none
theorem dflt_fold {n2 : List Str} {ds : List Value} : ∀ (slots : List (Str × Value)), n2.Nodup → (∀ n ∈ n2, slots.lookup n = none) → n2.length = ds.length →
    (n2.zip ds).foldl (fun c x => if (c.lookup x.1).isNone = true then c ++ [(x.1, x.2)] else c) slots = slots ++ n2.zip ds := by
  induction n2 generalizing ds with
  | nil => intro slots _ _ _; simp
  | cons a r ih =>
    intro slots nd h hl
    cases ds with
    | nil => simp at hl
    | cons d ds =>
      rw [List.nodup_cons] at nd
      rw [List.zip_cons_cons, List.foldl_cons, h a (.head _)]
      simp only [Option.isNone_none, if_true]
      rw [ih (slots ++ [(a, d)]) nd.2 (fun n hn => ?_) (by simpa using hl)]
      · simp
      · rw [List.lookup_append, h n (.tail _ hn)]
        have : (n == a) = false := beq_eq_false_iff_ne.mpr fun e => nd.1 (e ▸ hn)
        simp [List.lookup_cons, this]
theorem lookup_zip_none {names : List Str} {n : Str} (h : n ∉ names) : ∀ {vals : List Value}, (names.zip vals).lookup n = none := by
  induction names with
  | nil => intro vals; rfl
  | cons a r ih =>
    intro vals
    cases vals with
    | nil => rfl
    | cons v vs =>
      rw [List.zip_cons_cons, List.lookup_cons, show (n == a) = false from beq_eq_false_iff_ne.mpr fun e => h (e ▸ .head _)]
      exact ih fun q => h (.tail _ q)
theorem wpAny_forP {α β : Type} {M : Model} {A : Around} {E : Value → Shared → Prop} {s : Shared} {l : List α} {f : α → β → Sem (ForInStep β)} {b : β} {Q : β → Shared → Prop} (h : α → β → β) (hf : ∀ x c, f x c = pure (.yield (h x c))) (k : Q (l.foldl (fun c x => h x c) b) s) : wpAny M A (forIn l b f) Q E s := by
  have e : f = fun x c => pure (.yield (h x c)) := funext fun x => funext fun c => hf x c
  rw [e, List.forIn_pure_yield_eq_foldl]
  exact wpAny_pure k
theorem no_more {α : Type} {l : List α} (h : ∀ x ∈ l, False) : ¬ ((!l.isEmpty) = true) := by
  cases l with
  | nil => exact Bool.false_ne_true
  | cons a r => exact (h a (.head _)).elim
theorem bind_any {s : Shared} {fd : FuncData} {names n1 n2 : List Str} {vals : List Value} {r : Option (Array Value)} (P : PlainP fd.params names) (nd : names.Nodup) (e : names = n1 ++ n2) (hl : n1.length = vals.length) (il : (r.getD #[]).toList.length = n2.length)
    (hd : ∀ (M : Model) (A : Around) (E : Value → Shared → Prop) (Q : Option (Array Value) → Shared → Prop), Q r s → wpAny M A (seqItems? fd.defaults) Q E s) : BindsTo s fd ⟨vals, []⟩ (names.zip (vals ++ (r.getD #[]).toList)) := by
  intro M A E Q hq
  obtain ⟨name, qual, ⟨po, ar, va, ko, kd, kw, de⟩, fbody, fscope, fglob, fclo, fdef, fkw, fdoc, fpm, fan, fcode, fct, fb⟩ := fd
  have h1 : po = [] := P.po
  have h2 : va = none := P.va
  have h3 : ko = [] := P.ko
  have h4 : kw = none := P.kw
  have h5 : ar.map (·.arg) = names := P.ar
  subst h1 h2 h3 h4 h5
  have len : (ar.map (·.arg)).length = vals.length + (r.getD #[]).toList.length := by rw [e, List.length_append, hl, il]
  have dr : List.drop ((r.getD #[]).toList.length - (ar.map (·.arg)).length) (r.getD #[]).toList = (r.getD #[]).toList := by rw [len, Nat.sub_eq_zero_of_le (Nat.le_add_left _ _)]; rfl
  have fs : (ar.map (·.arg)).length - (List.drop ((r.getD #[]).toList.length - (ar.map (·.arg)).length) (r.getD #[]).toList).length = n1.length := by rw [dr, len, Nat.add_sub_cancel, hl]
  have z0 : (ar.map (·.arg)).zip vals = n1.zip vals := by
    have : (n1 ++ n2).zip (vals ++ []) = n1.zip vals ++ n2.zip [] := List.zip_append hl
    rw [e]
    simpa using this
  have nd2 := List.nodup_append.mp (e ▸ nd)
  unfold bindArgs
  refine wpAny_bind (wpAny_pure (wpAny_bind (hd _ _ _ _ (wpAny_ifF (fun z => ?_) (wpAny_ifF (no_more fun n hn => ?_) (wpAny_bind (wpAny_forP (fun (x : Str × Value) c => if (c.lookup x.1).isNone = true then c ++ [(x.1, x.2)] else c) (fun x c => ?_) (wpAny_bind (wpAny_pure (wpAny_ifF Bool.false_ne_true (wpAny_pure ?_)))))))))))
  · have z : decide (vals.length > (ar.map (·.arg)).length) = true := (Bool.and_eq_true_iff.mp z).1
    rw [len] at z
    exact absurd (of_decide_eq_true z) (Nat.not_lt.mpr (Nat.le_add_right _ _))
  · obtain ⟨m, q⟩ := List.mem_filter.mp hn
    have m : n ∈ List.take ((ar.map (·.arg)).length - (List.drop ((r.getD #[]).toList.length - (ar.map (·.arg)).length) (r.getD #[]).toList).length) (ar.map (·.arg)) := m
    rw [fs, hl] at m
    have := lookup_zip_some m
    have q : (List.lookup n ((ar.map (·.arg)).zip vals)).isNone = true := q
    rw [Option.isNone_iff_eq_none.mp q] at this
    cases this
  · obtain ⟨n, d⟩ := x
    show (if (List.lookup n c).isNone = true then _ else _) = _
    split <;> rfl
  · have fin : (List.foldl (fun c (x : Str × Value) => if (List.lookup x.1 c).isNone = true then c ++ [(x.1, x.2)] else c) ((ar.map (·.arg)).zip vals) ((List.drop ((ar.map (·.arg)).length - (List.drop ((r.getD #[]).toList.length - (ar.map (·.arg)).length) (r.getD #[]).toList).length) (ar.map (·.arg))).zip (List.drop ((r.getD #[]).toList.length - (ar.map (·.arg)).length) (r.getD #[]).toList)))
        = (ar.map (·.arg)).zip (vals ++ (r.getD #[]).toList) := by
      rw [fs, dr, z0, e, List.drop_left, dflt_fold _ nd2.2.1 (fun n hn => lookup_zip_none fun q => nd2.2.2 _ q _ hn rfl) il.symm, ← List.zip_append hl]
    have all := lookup_zip nd (vals := vals ++ (r.getD #[]).toList) (by rw [len, List.length_append])
    rw [← fin] at all
    have e2 : (ar.map (·.arg)) ++ [] = ar.map (·.arg) := List.append_nil _
    show Q (List.filterMap _ ((ar.map (·.arg)) ++ [])) s
    rw [e2]
    exact (all.trans fin) ▸ hq
end
section
set_option tactic.hygienic false
open PySem PySem.W PySem.Calls PyProof.Rows
section
variable {g : Gb} {c : Cx} {σ : AH} {s : Shared}
theorem Inv.newKs (I : Inv g c σ s) {N : List (Addr × Obj)} {h' : Heap} {tk : Nat} (nd : (N.map (·.1)).Nodup) (f : ∀ p ∈ N, s.heap.get? p.1 = none) (k : ∀ b ob, s.heap.get? b = some ob → h'.get? b = some ob) (e : ∀ p ∈ N, h'.get? p.1 = some p.2) :
    Inv g (c.kp (N ++ c.keep)) σ { s with heap := h', toks := tk } ∧ (∀ p ∈ N, ∀ q ∈ c.all, q.1 ≠ p.1) := by
  obtain ⟨D, led, H, A, K⟩ := I
  have no : ∀ p ∈ N, ∀ o, (p.1, o) ∉ led := fun p hp o => none_of_ledger A (f p hp)
  have notown : ∀ p ∈ N, ¬ Own σ D p.1 := fun p hp => by
    rintro (z | ⟨b, C, fs, e, q⟩)
    · exact z (H.none_of (no p hp))
    · obtain ⟨_, es, n, m2, _⟩ := H.obj b _ e
      exact no p hp _ (q ▸ m2)
  have W := A.keeps (tk := tk) k
  refine ⟨⟨D, N ++ led, ⟨?_, fun b ob eb => (H.obj b ob eb).more fun q hq => List.mem_append_right _ hq, H.inj, H.sep⟩, ⟨W.fr, fun q hq => ?_, W.gens, W.drawn, W.os⟩, fun q hq => ?_⟩, fun p hp q hq e => ?_⟩
  · rw [List.map_append, List.nodup_append]
    refine ⟨nd, H.nd, fun a ha b hb q => ?_⟩
    obtain ⟨p, hp, rfl⟩ := List.mem_map.mp ha
    obtain ⟨r, hr, rfl⟩ := List.mem_map.mp hb
    obtain ⟨r1, r2⟩ := r
    exact no p hp r2 (by rw [q]; exact hr)
  · rcases List.mem_append.mp hq with hq | hq
    · obtain ⟨h0, hL⟩ := A.fresh (f q hq)
      exact ⟨e q hq, hL, h0⟩
    · exact W.news q hq
  · rcases mem_all.mp hq with hq | hq
    · obtain ⟨⟨o, z, kr⟩, w⟩ := K q (List.mem_append_left _ hq); exact ⟨⟨o, List.mem_append_right _ z, kr⟩, w⟩
    · rcases List.mem_append.mp hq with hq | hq
      · exact ⟨⟨q.2, List.mem_append_left _ hq, .rfl⟩, notown q hq⟩
      · obtain ⟨⟨o, z, kr⟩, w⟩ := K q (List.mem_append_right _ hq); exact ⟨⟨o, List.mem_append_right _ z, kr⟩, w⟩
  · obtain ⟨⟨o, z, _⟩, _⟩ := K q hq
    exact no p hp o (e ▸ z)
theorem ThC.perm {c' : Cx} {l : List Env} {E : EX} {v : Value} (T : ThC g l c E v s) (hb : c'.base = c.base) (hL : c'.L = c.L) (hm : c'.m = c.m) (h0 : c'.s₀ = c.s₀) (h : ∀ q ∈ c'.all, q ∈ c.all) : ThC g l c' E v s := by
  obtain ⟨e, σ, D, led, B, a0, rfl, hE, H, A, K, HH, hb', hB⟩ := T
  refine ⟨e, σ, D, led, B, a0, rfl, hE, H, ⟨?_, ?_, ?_, ?_, ?_⟩, fun q hq => K q (h q hq), HH, hb ▸ hb', hB⟩
  · rw [hb, hL, hm]; exact A.fr
  · rw [hb, hL]; exact A.news
  · rw [h0]; exact A.gens
  · rw [h0]; exact A.drawn
  · rw [h0]; exact A.os
theorem ThC.pop {env : Env} {l : List Env} {E : EX} {v : Value} {M : Model} {A : Around} (hfr : A.frames = some (env :: l)) (F : FrOk c (env :: l)) (hf : env.frame = some c.L) (T : ThC g (env :: l) c E v s) {Q : Unit → Shared → Prop} {Er : Value → Shared → Prop}
    (h : ∀ s', ThC g l c E v s' → Q () s') : wpAny M A (leaving env v) Q Er s := by
  obtain ⟨e, B, a0, fl, rfl, H, k⟩ := T.step F
  unfold leaving
  refine wpAny_bind (held_note hfr hf H fun h' H' u => ?_)
  refine held_setFlight (s := { s with heap := h' }) H' none fun h'' fl' H'' z u' => ?_
  obtain ⟨e', σ', D, led, B', a0', ee, hE, HL, W, K, ⟨fl'', H3⟩, hb', hB⟩ := k h'' fl' H'' (u.trans u')
  refine h _ ⟨e', σ', D, led, B', a0', ee, hE, HL, W, K, ⟨fl'', H3.1, H3.2.1, H3.2.2.1.2.2, H3.2.2.2⟩, hb', fun q hq n => hB q hq fun z => ?_⟩
  unfold frs at z
  rw [List.filterMap_cons, hf] at z
  rcases List.mem_cons.mp z with z | z
  · exact (W.news q hq).2.1 z
  · exact n z
theorem Raised.pop {env : Env} {l : List Env} {E : EX} {v : Value} {M : Model} {A A₀ : Around} (hfr : A.frames = some (env :: l)) (F : FrOk c (env :: l)) (hf : env.frame = some c.L) (R : Raised g A₀ c E v s) {Q : Unit → Shared → Prop} {Er : Value → Shared → Prop}
    (h : ∀ s', ThC g l c E v s' → Q () s') : wpAny M A (leaving env v) Q Er s := by
  obtain ⟨e, σ, D, led, oe, vs, a0, rfl, hE, H, W, K, no, be, he, hc, hd, h1, h0⟩ := R
  have frObj : ∀ x ∈ env :: l, x.scope.kind ≠ .module ∧ ∃ L o, x.frame = some L ∧ c.base.get? L = none ∧ s.heap.get? L = some o ∧ ∀ vs, o.data ≠ .fields vs := fun x hx => by
    obtain ⟨k1, L, k2, k3, k4⟩ := F x hx
    rcases k4 with rfl | ⟨o, es, n, m, d⟩
    · obtain ⟨o, es, ep, eo, d, _⟩ := W.fr.ns
      exact ⟨k1, _, o, k2, k3, eo, fun vs z => by rw [d] at z; cases z⟩
    · obtain ⟨⟨o', m', kr⟩, _⟩ := K _ (List.mem_append_right _ m)
      exact ⟨k1, L, o', k2, k3, (W.news _ m').1, fun vs z => by rw [kr.data, d] at z; cases z⟩
  have bfr : ∀ a ∈ frs (env :: l), c.base.get? a = none := fun a ha => by
    obtain ⟨x, hx, ex⟩ := List.mem_filterMap.mp ha
    obtain ⟨_, L, o, k2, k3, _⟩ := frObj x hx
    rw [k2] at ex; cases ex; exact k3
  let B := hideAll s.heap (e :: frs (env :: l))
  have Bs : B.StaysIn s.heap := fun b o eb => of_hideAll _ eb
  have Be : B.get? e = none := hideAll_none _ (.head _)
  have ff : ∀ m : List Env, (∀ x ∈ m, x ∈ env :: l) → s.heap.FunFrames B m := by
    intro m
    induction m with
    | nil => intro _; trivial
    | cons x r ih =>
      intro hm
      obtain ⟨k1, L, o, k2, k3, k4, k5⟩ := frObj x (hm x (.head _))
      exact ⟨k1, ⟨L, o, k2, hideAll_none _ (.tail _ (List.mem_filterMap.mpr ⟨x, hm x (.head _), k2⟩)), k4, k5⟩, ih fun y hy => hm y (.tail _ hy)⟩
  have hb : c.base.StaysIn B := fun b o eb => hideAll_get _ (W.fr.keep b o eb) fun z => by
    rcases List.mem_cons.mp z with z | z
    · rw [z, be] at eb; cases eb
    · rw [bfr b z] at eb; cases eb
  have hB : ∀ q ∈ led, q.1 ∉ frs (env :: l) → B.get? q.1 = some q.2 := fun q hq n => hideAll_get _ (W.news q hq).1 fun z => by
    rcases List.mem_cons.mp z with z | z
    · exact no q.2 (z ▸ hq)
    · exact n z
  refine wpAny_leaving_firstW hfr (ff _ fun Ω h => h) hf he Bs Be hd h1 h0 fun h' ⟨x1, x2, x3, x4⟩ => ?_
  obtain ⟨led', y1, y2, y3, y4⟩ := relead F H W K hb hB x1 x4
  refine h _ ⟨e, σ, D, led', B, a0, rfl, hE, y1, y2, y3, ⟨.none, x1, Be, x2.2.2, ?_⟩, hb, fun q hq n => y4 q hq fun z => ?_⟩
  · have := x3.at
    rw [hc] at this
    exact this
  · unfold frs at z
    rw [List.filterMap_cons, hf] at z
    rcases List.mem_cons.mp z with z | z
    · exact (y2.news q hq).2.1 z
    · exact n z
end
end
section
set_option tactic.hygienic false
open PySem PySem.W PySem.Calls PyProof.Rows
theorem putAll_get : ∀ {xs : List Nat} {vs : List AV} {ρ₀ ρ : Loc}, putAll xs vs ρ₀ = some ρ → xs.length = vs.length ∧ ∀ x v, ρ x = some v → (x, v) ∈ xs.zip vs ∨ ρ₀ x = some v
  | [], [], ρ₀, ρ, h => by cases h; exact ⟨rfl, fun Ω Ω e => .inr e⟩
  | [], _ :: _, _, _, h => by cases h
  | _ :: _, [], _, _, h => by cases h
  | a :: xs, v :: vs, ρ₀, ρ, h => by
    obtain ⟨h1, h2⟩ := putAll_get (xs := xs) (vs := vs) (ρ₀ := ρ₀.put a v) h
    refine ⟨by simp [h1], fun x w e => ?_⟩
    rcases h2 x w e with q | q
    · exact .inl (.tail _ q)
    · unfold Loc.put at q
      split at q
      · rename_i z; subst z; cases q; exact .inl (.head _)
      · exact .inr q
theorem VRs.zip {vs : List Value} {ys : List AV} (r : VRs vs ys) : ∀ {xs : List Nat} {nm : Nat → Str} {x : Nat} {y : AV}, (x, y) ∈ xs.zip ys → ∃ w, VR w y ∧ (nm x, w) ∈ (xs.map nm).zip vs := by
  induction r with
  | nil => intro xs nm x y h; cases xs <;> simp at h
  | @cons w y' vs ys a b ih =>
    intro xs nm x y h
    cases xs with
    | nil => simp at h
    | cons k xs =>
      rw [List.zip_cons_cons] at h
      rcases List.mem_cons.mp h with h | h
      · cases h; exact ⟨w, a, .head _⟩
      · obtain ⟨w', r', m⟩ := ih (nm := nm) h
        exact ⟨w', r', .tail _ m⟩
theorem bindL_get {kindOf : Str → Option NameKind} : ∀ {binds : List (Str × Value)} {m : Str → Option Value} {n : Str} {w : Value}, (binds.map (·.1)).Nodup → (n, w) ∈ binds → kindOf n = some .local → bindL kindOf binds m n = some w := by
  have keep : ∀ {binds : List (Str × Value)} {m : Str → Option Value} {n : Str}, n ∉ binds.map (·.1) → bindL kindOf binds m n = m n := by
    intro binds
    induction binds with
    | nil => intro m n _; rfl
    | cons p r ih =>
      intro m n h
      obtain ⟨a, v⟩ := p
      simp only [List.map_cons, List.mem_cons, not_or] at h
      unfold bindL
      rw [ih h.2]
      split
      · simp [h.1]
      · rfl
  intro binds
  induction binds with
  | nil => intro m n w _ h; cases h
  | cons p r ih =>
    intro m n w nd h k
    obtain ⟨a, v⟩ := p
    rw [List.map_cons, List.nodup_cons] at nd
    unfold bindL
    rcases List.mem_cons.mp h with h | h
    · cases h
      rw [keep nd.1, if_pos k]; simp
    · exact ih nd.2 h k
theorem bindC_get {kindOf : Str → Option NameKind} : ∀ {binds : List (Str × Value)} {m : Str → Option Value} {n : Str} {w : Value}, (binds.map (·.1)).Nodup → (n, w) ∈ binds → kindOf n = some .cell → bindC kindOf binds m n = some w := by
  have keep : ∀ {binds : List (Str × Value)} {m : Str → Option Value} {n : Str}, n ∉ binds.map (·.1) → bindC kindOf binds m n = m n := by
    intro binds
    induction binds with
    | nil => intro m n _; rfl
    | cons p r ih =>
      intro m n h
      obtain ⟨a, v⟩ := p
      simp only [List.map_cons, List.mem_cons, not_or] at h
      unfold bindC
      rw [ih h.2]
      split
      · rfl
      · simp [h.1]
  intro binds
  induction binds with
  | nil => intro m n w _ h; cases h
  | cons p r ih =>
    intro m n w nd h k
    obtain ⟨a, v⟩ := p
    rw [List.map_cons, List.nodup_cons] at nd
    unfold bindC
    rcases List.mem_cons.mp h with h | h
    · cases h
      rw [keep nd.1, if_neg (by rw [k]; decide)]; simp
    · exact ih nd.2 h k
theorem cellsFrom_has : ∀ {names : List (Str × NameKind)} {n : Nat} {acc : List (Str × Addr)} {x : Str}, ((x, .cell) ∈ names ∨ x ∈ acc.map (·.1)) → x ∈ (cellsFrom n names acc).map (·.1)
  | [], _, _, _, h => by rcases h with h | h; cases h; exact h
  | (a, k) :: r, n, acc, x, h => by
    unfold cellsFrom
    split
    · rename_i q
      refine cellsFrom_has ?_
      rcases h with h | h
      · rcases List.mem_cons.mp h with h | h
        · cases h; exact .inr (.head _)
        · exact .inl h
      · exact .inr (.tail _ h)
    · rename_i q
      refine cellsFrom_has ?_
      rcases h with h | h
      · rcases List.mem_cons.mp h with h | h
        · cases h; exact absurd rfl q
        · exact .inl h
      · exact .inr h
theorem lookup_isSome {l : List (Str × Addr)} {x : Str} (m : x ∈ l.map (·.1)) : (l.lookup x).isSome = true := by
  induction l with
  | nil => cases m
  | cons p r ih =>
    obtain ⟨k, b⟩ := p
    rw [List.lookup_cons]
    by_cases q : x = k
    · subst q; simp
    · rw [show (x == k) = false from beq_eq_false_iff_ne.mpr q]
      rcases List.mem_cons.mp m with m | m
      · exact absurd m q
      · exact ih m
theorem mem_lookup {l : List (Str × Addr)} {x : Str} {a : Addr} (h : l.lookup x = some a) : (x, a) ∈ l := by
  induction l with
  | nil => simp at h
  | cons p r ih =>
    obtain ⟨k, b⟩ := p
    rw [List.lookup_cons] at h
    by_cases q : x = k
    · subst q
      simp at h; subst h
      exact .head _
    · rw [show (x == k) = false from beq_eq_false_iff_ne.mpr q] at h
      exact .tail _ (ih h)
theorem CellsAre.mem {cm : Str → Option Value} {cs : List (Str × Addr)} {cells : List (Addr × Obj)} (X : CellsAre cm cs cells) : (∀ n a, (n, a) ∈ cs → ∃ o, (a, o) ∈ cells ∧ o.data = .cell (cm n)) ∧ (∀ q ∈ cells, ∃ n, (n, q.1) ∈ cs ∧ q.2.data = .cell (cm n)) ∧ cells.map (·.1) = cs.map (·.2) := by
  induction X with
  | nil => exact ⟨fun Ω Ω h => (by cases h), fun Ω h => (by cases h), rfl⟩
  | @cons n a o cs cells d X ih =>
    obtain ⟨i1, i2, i3⟩ := ih
    refine ⟨fun n' a' h => ?_, fun q hq => ?_, by simp [i3]⟩
    · rcases List.mem_cons.mp h with h | h
      · cases h; exact ⟨o, .head _, d⟩
      · obtain ⟨o', m, d'⟩ := i1 _ _ h; exact ⟨o', .tail _ m, d'⟩
    · rcases List.mem_cons.mp hq with rfl | hq
      · exact ⟨n, .head _, d⟩
      · obtain ⟨n', m, d'⟩ := i2 q hq; exact ⟨n', .tail _ m, d'⟩
theorem pairwise_inj {l : List (Str × Addr)} (h : l.Pairwise fun x y => x.2 ≠ y.2) {x y : Str} {a : Addr} (hx : (x, a) ∈ l) (hy : (y, a) ∈ l) : x = y := by
  induction l with
  | nil => cases hx
  | cons p r ih =>
    rw [List.pairwise_cons] at h
    rcases List.mem_cons.mp hx with e | hx <;> rcases List.mem_cons.mp hy with e' | hy
    · rw [← e] at e'; cases e'; rfl
    · exact (h.1 _ hy (by rw [← e])).elim
    · exact (h.1 _ hx (by rw [← e'])).elim
    · exact ih h.2 hx hy
theorem pairwise_nodup {l : List (Str × Addr)} (h : l.Pairwise fun x y => x.2 ≠ y.2) : (l.map (·.2)).Nodup := by
  induction l with
  | nil => exact List.nodup_nil
  | cons p r ih =>
    rw [List.pairwise_cons] at h
    rw [List.map_cons, List.nodup_cons]
    exact ⟨fun m => by obtain ⟨q, hq, e⟩ := List.mem_map.mp m; exact h.1 q hq e.symm, ih h.2⟩
theorem get_ge {h : Heap} {a : Addr} (ha : h.objs.size ≤ a) : h.get? a = none := by
  cases q : h.get? a with
  | none => rfl
  | some o => exact absurd (Heap.lt_size q) (Nat.not_lt.mpr ha)
inductive DfAt (g : Gb) (F : FI) (dV : Value) : Prop
  | no (h : F.dflt = []) (e : dV = .none)
  | at_ (T : Addr) (o : Obj) (items : Array Value) (k : Nat) (e : dV = .ref T) (h : g.K.lookup T = some o) (d : o.data = .seq items k) (r : VRs items.toList F.dflt) (l : F.dflt.length ≤ F.params.length)
inductive FnEx (g : Gb) (f : Nat) (F : FI) (qual : Str) (body : List Stmt) (scope : Scope) (cdv : Value) : Prop
  | mk (name params dV kV doc pm an od oc osl ct) (hk : g.K.lookup (g.fa f) = some ⟨oc, od, .func (fnOf name qual params body scope dV kV doc pm an cdv ct), osl⟩) (P : PlainP params (F.params.map g.nm)) (dd : DfAt g F dV)
structure FnAt (g : Gb) (f : Nat) (F : FI) (qual : Str) (body : List Stmt) (scope : Scope) (cdv : Value) : Prop where
  ex : FnEx g f F qual body scope cdv
  cd : codeIn g.K cdv qual = true
  nd : F.params.Nodup
  lt : ∀ x ∈ F.params, x < g.nN
  kinds : ∀ x ∈ F.params, scope.names.lookup (g.nm x) = some .local ∨ scope.names.lookup (g.nm x) = some .cell
  cnd : ((cellsFrom 0 scope.names []).map (·.1)).Nodup
  sk : scope.kind = .function
  co : scope.isCoroutine = false
  ge : scope.isGenerator = false
theorem nodup_map {g : Gb} {base : Heap} (S : Stat g base) {l : List Nat} (nd : l.Nodup) (lt : ∀ x ∈ l, x < g.nN) : (l.map g.nm).Nodup := by
  induction l with
  | nil => exact List.nodup_nil
  | cons a r ih =>
    rw [List.nodup_cons] at nd
    rw [List.map_cons, List.nodup_cons]
    refine ⟨fun m => ?_, ih nd.2 fun x hx => lt x (.tail _ hx)⟩
    obtain ⟨b, hb, e⟩ := List.mem_map.mp m
    exact nd.1 (S.injN _ _ (lt b (.tail _ hb)) (lt a (.head _)) e ▸ hb)
inductive BindOk (g : Gb) (f : Nat) (F : FI) (qual : Str) (body : List Stmt) (scope : Scope) (cdv : Value) (s : Shared) (vals : List Value) (vs : List AV) : Prop
  | mk (name params dV kV doc pm an od oc osl ct) (all : List Value) (hk : g.K.lookup (g.fa f) = some ⟨oc, od, .func (fnOf name qual params body scope dV kV doc pm an cdv ct), osl⟩) (ra : VRs all (vs ++ F.dflt)) (la : (F.params.map g.nm).length = all.length)
    (B : BindsTo s (fnOf name qual params body scope dV kV doc pm an cdv ct) ⟨vals, []⟩ ((F.params.map g.nm).zip all))
theorem bind_ok {g : Gb} {base : Heap} (S : Stat g base) {f : Nat} {F : FI} {qual : Str} {body : List Stmt} {scope : Scope} {cdv : Value} (FA : FnAt g f F qual body scope cdv) {s : Shared} (X : g.K.In s.heap) {vals : List Value} {vs : List AV} (r : VRs vals vs) (hl : F.params.length = (vs ++ F.dflt).length) :
    BindOk g f F qual body scope cdv s vals vs := by
  obtain ⟨name, params, dV, kV, doc, pm, an, od, oc, osl, ct, hk, P, dd⟩ := FA.ex
  have nd := nodup_map S FA.nd FA.lt
  obtain ⟨d, hd, rd⟩ : ∃ d : Option (Array Value), (∀ (M : Model) (A : Around) (E : Value → Shared → Prop) (Q : Option (Array Value) → Shared → Prop), Q d s → wpAny M A (seqItems? dV) Q E s) ∧ VRs (d.getD #[]).toList F.dflt := by
    rcases dd with ⟨h1, h2⟩ | ⟨T, o, items, k, h1, h2, h3, h4, h5⟩
    · exact ⟨none, fun Ω Ω Ω Ω q => by rw [h2]; exact wpAny_pure q, h1 ▸ .nil⟩
    · exact ⟨some items, fun Ω Ω Ω Ω q => by rw [h1]; exact wpAny_seqItems (X _ _ h2) h3 q, h4⟩
  have e1 := r.length
  have e2 := rd.length
  rw [List.length_append] at hl
  exact ⟨name, params, dV, kV, doc, pm, an, od, oc, osl, ct, vals ++ (d.getD #[]).toList, hk, r.append rd, by rw [List.length_map, hl, List.length_append, e1, e2],
    bind_any P nd (List.take_append_drop vs.length _).symm (by rw [List.length_take, List.length_map, hl, e1]; exact Nat.min_eq_left (Nat.le_add_right _ _)) (by rw [List.length_drop, List.length_map, hl, e2, Nat.add_sub_cancel_left]) hd⟩
end
section
set_option tactic.hygienic false
open PySem PySem.W PySem.Calls PyProof.Rows
theorem call_step {g : Gb} {f : Nat} {F : FI} {qual : Str} {body : List Stmt} {scope : Scope} {cdv : Value} (FA : FnAt g f F qual body scope cdv) {Φ : SemF} {n : Nat}
    (hbody : ∀ A L', Top A (envOfC qual scope L' (g.fa f) cdv) → OkSS g Φ A n (envOfC qual scope L' (g.fa f) cdv) F.body body)
    {vs : List AV} {Q : AV → AH → Prop} {E : EX} {σ : AH} {ρ : Loc} (hbind : bindF F vs = some ρ)
    (h : exs Φ F.body ρ (Ks.fn Q E) σ)
    {A : Around} {c : Cx} (hd : A.depth + 2 * (n + 1) ≤ 901) (hu : A.units + 8 * (n + 1) ≤ 9002) (hA : A.handled = none) (S : Stat g c.base) (hfr : ∃ env outer, A.frames = some (env :: outer) ∧ FrOk c (env :: outer))
    {vals : List Value} {s : Shared} (r : VRs vals vs) (I : Inv g c σ s) :
    codeAny (model g.prog g.w) A (.call (.ref (g.fa f)) ⟨vals, []⟩) (fun r s' => match r with | .ok (.ret v) => PV g c Q v s' | .ok _ => False | .error e => Th g A c E e s') s := by
  obtain ⟨env0, outer, hfr, FR⟩ := hfr
  obtain ⟨plen, pget⟩ := putAll_get hbind
  have X := S.X.keeps I.fr.keep
  obtain ⟨name, params, dV, kV, doc, pm, an, od, oc, osl, ct, all, hk, rall, lall, hB⟩ := bind_ok S FA X r plen
  have nd := nodup_map S FA.nd FA.lt
  have kinds : ∀ x ∈ (F.params.map g.nm).zip all, scope.names.lookup x.1 = some .local ∨ scope.names.lookup x.1 = some .cell := fun x hx => by
    obtain ⟨y, hy, e⟩ := List.mem_map.mp (List.of_mem_zip hx).1
    rw [← e]
    exact FA.kinds y hy
  refine codeAny_call_function (Nat.lt_of_le_of_lt (show A.depth ≤ 901 by lia) (by decide)) (X _ _ hk) rfl FA.co FA.ge rfl (codeRec_of X FA.cd) (hB _ _ _ _ ?_)
  refine wpAny_newFunctionEnv_cells FA.sk (fun x hx => (kinds x hx).imp id fun k => ⟨k, lookup_isSome (cellsFrom_has (.inl (mem_of_lookup k)))⟩) fun env' he s' ic => ?_
  subst he
  obtain ⟨h₁, tk, rfl⟩ := ic.toInCall.same
  have keep₁ : ∀ b o, s.heap.get? b = some o → h₁.get? b = some o := ic.toInCall.keep
  refine ⟨(S.T.nolimit.keeps I.fr.keep).keeps keep₁, codeAny_func ?_⟩
  -- the cells
  have cnd : ((cellsFrom (s.heap.objs.size + 1) scope.names []).map (·.1)).Nodup := cellsFrom_names scope.names 0 (s.heap.objs.size + 1) [] [] rfl ▸ FA.cnd
  generalize hL : s.heap.objs.size = L' at *
  have above : ∀ n c, (n, c) ∈ cellsFrom (L' + 1) scope.names [] → L' < c := ic.above
  obtain ⟨cells, NC, Y⟩ := Cl.news (h₀ := s.heap) (h := h₁) (L := L') (cm := bindC (Env.kindOf (envOfC qual scope L' (g.fa f) cdv)) ((F.params.map g.nm).zip all) fun Ω => none) (Nat.le_of_eq hL) (cs := cellsFrom (L' + 1) scope.names []) fun n c hm => ⟨ic.cell n c (lookup_of_mem_nodup cnd hm), above n c hm⟩
  obtain ⟨y1, y2, y3⟩ := CellsAre.mem Y
  -- the new frame
  obtain ⟨oL', eL', nL'⟩ := Ns.obj ic.toInCall.ns
  have cellAbove : ∀ q ∈ cells, L' < q.1 := fun q hq => let ⟨_, m, _⟩ := y2 q hq; above _ _ m
  have Nnd : (((L', oL') :: cells).map (·.1)).Nodup := by
    rw [List.map_cons, List.nodup_cons]
    refine ⟨fun m => ?_, by rw [y3]; exact pairwise_nodup ic.apart⟩
    obtain ⟨q, hq, e⟩ := List.mem_map.mp m
    have := cellAbove q hq
    rw [e] at this; exact Nat.lt_irrefl _ this
  obtain ⟨I1, nk1⟩ := I.newKs (N := (L', oL') :: cells) (h' := h₁) (tk := tk) Nnd (fun p hp => by
      rcases List.mem_cons.mp hp with rfl | hp
      · exact get_ge (Nat.le_of_eq hL)
      · exact get_ge (hL ▸ Nat.le_of_lt (cellAbove p hp))) keep₁ (fun p hp => by
      rcases List.mem_cons.mp hp with rfl | hp
      · exact eL'
      · exact (NC p hp).1)
  have low : c.base.objs.size ≤ L' := by
    obtain ⟨o', _, _, e', _⟩ := I.fr.ns
    have h1 : c.L < s.heap.objs.size := Heap.lt_size e'
    have h2 : c.base.objs.size ≤ c.L := I.fr.above
    rw [← hL]
    exact Nat.le_trans h2 (Nat.le_of_lt h1)
  have cellL : ∀ q ∈ cells, q.1 ≠ L' := fun q hq => Nat.ne_of_gt (cellAbove q hq)
  have allL' : ∀ q ∈ c.all, q.1 ≠ L' := fun q hq => nk1 _ (.head _) q hq
  obtain ⟨oL, nL, LL, ndL, I2⟩ := Inv.swap (c := c) (k := cells ++ c.keep) I1 nL' low (fun q hq => (List.mem_append.mp hq).elim (fun hq => allL' q (List.mem_append_left _ hq)) fun hq => (List.mem_append.mp hq).elim (cellL q) fun hq => allL' q (List.mem_append_right _ hq))
  have ndAll : ∀ q ∈ c.all, q.1 ≠ c.L := fun q hq => ndL q (List.mem_append.mpr ((List.mem_append.mp hq).imp id fun hq => List.mem_append_right _ hq))
  have ndCells : ∀ q ∈ cells, q.1 ≠ c.L := fun q hq => ndL q (List.mem_append_right _ (List.mem_append_left _ hq))
  let c' : Cx := { base := c.base, L := L', m := bindL (Env.kindOf (envOfC qual scope L' (g.fa f) cdv)) ((F.params.map g.nm).zip all) fun Ω => none, keep := (c.L, oL) :: c.all, s₀ := c.s₀, cells := cells }
  have I3 : Inv g c' σ { s with heap := h₁, toks := tk } := I2.perm rfl rfl rfl rfl fun q hq => mem_sh hq
  have EO : EnvOk c' (envOfC qual scope L' (g.fa f) cdv) := ⟨FA.sk, rfl, rfl, rfl⟩
  have CO : CellOk c' (envOfC qual scope L' (g.fa f) cdv) := by
    refine ⟨fun x a Ω hl => ?_, fun q hq => ?_, fun x y a h1 h2 => pairwise_inj ic.apart (mem_lookup h1) (mem_lookup h2), by rw [show c'.cells = cells from rfl, y3]; exact pairwise_nodup ic.apart, fun x a hl => ?_⟩
    · obtain ⟨o, m, _⟩ := y1 _ _ (mem_lookup hl)
      refine ⟨List.mem_map_of_mem m, fun q hq => ?_⟩
      rcases List.mem_cons.mp hq with rfl | hq
      · exact (ndCells _ m).symm
      · exact nk1 _ (.tail _ m) q hq
    · obtain ⟨n, _, d⟩ := y2 q hq
      exact ⟨_, d⟩
    · obtain ⟨o, m, _⟩ := y1 _ _ (mem_lookup hl)
      exact ⟨_, List.mem_append_left _ m, rfl⟩
  have hρ : LocR g c' (envOfC qual scope L' (g.fa f) cdv) ρ := fun y v e => by
    rcases pget y v e with m | m
    · obtain ⟨w, rw', mw⟩ := VRs.zip rall (nm := g.nm) m
      have hy := (List.of_mem_zip m).1
      refine ⟨FA.lt y hy, w, rw', ?_⟩
      have ndz : (((F.params.map g.nm).zip all).map (·.1)).Nodup := by
        rw [List.map_fst_zip (Nat.le_of_eq lall)]; exact nd
      rcases FA.kinds y hy with k | k
      · exact .local k (bindL_get ndz mw k)
      · have := lookup_isSome (cellsFrom_has (n := L' + 1) (acc := []) (.inl (mem_of_lookup k)))
        obtain ⟨a, ha⟩ := Option.isSome_iff_exists.mp this
        obtain ⟨o, mo, d⟩ := y1 _ _ (mem_lookup ha)
        exact .cell a o k ha (List.mem_append_left _ mo) (by rw [d, bindC_get ndz mw k])
    · cases m
  have TP : Top (A.deeper (envOfC qual scope L' (g.fa f) cdv)) (envOfC qual scope L' (g.fa f) cdv) := ⟨_, env0 :: outer, L', Around.frames_deeper hfr, rfl, rfl⟩
  have bL' : c.base.get? L' = none := get_ge low
  have bL : c.base.get? c.L = none := get_ge I.fr.above
  have FR' : FrOk c' (envOfC qual scope L' (g.fa f) cdv :: env0 :: outer) := fun e he => by
    rcases List.mem_cons.mp he with rfl | he
    · exact ⟨by rw [show (envOfC qual scope L' (g.fa f) cdv).scope = scope from rfl, FA.sk]; decide, L', rfl, bL', .inl rfl⟩
    · obtain ⟨h1, L, h2, h3, h4⟩ := FR e he
      refine ⟨h1, L, h2, h3, .inr ?_⟩
      rcases h4 with rfl | ⟨o, es, n, m, d⟩
      · obtain ⟨es, ep, d, _⟩ := nL
        exact ⟨oL, es, ep, .head _, d⟩
      · exact ⟨o, es, n, .tail _ (List.mem_append_right _ m), d⟩
  have AO : AOk g (A.deeper (envOfC qual scope L' (g.fa f) cdv)) c' n := ⟨hA, ⟨by show A.depth + 1 + 2 * n ≤ 900; lia, by show A.units + 3 + 8 * n ≤ 9000; lia⟩, S, ⟨_, env0 :: outer, Around.frames_deeper hfr, FR'⟩⟩
  -- back into the caller's frame
  have back : ∀ {c'' : Cx} {σ' : AH} {s' : Shared}, Nx c' c'' → Inv g c'' σ' s' → Inv g c σ' s' := fun {c''} {σ'} {s'} N J => by
    have e1 : c''.keep = (c.L, oL) :: c.all := N.keep
    have ck : ∀ q ∈ c''.cells ++ c.all, q.1 ≠ c.L := fun q hq => by
      rcases List.mem_append.mp hq with hq | hq
      · have : q.1 ∈ cells.map (·.1) := by have := N.keys; rw [← show c'.cells = cells from rfl, ← this]; exact List.mem_map_of_mem hq
        obtain ⟨p, hp, e⟩ := List.mem_map.mp this
        exact e ▸ ndCells p hp
      · exact ndAll q hq
    have J1 : Inv g (c''.kp ((c.L, oL) :: c.all)) σ' s' := by rw [← e1]; exact J
    obtain ⟨o2, _, _, _, J2⟩ := Inv.swap (c := c'') J1 nL (by rw [N.base]; exact I.fr.above) ck
    refine J2.perm N.base.symm rfl rfl N.s₀.symm fun q hq => ?_
    exact List.mem_append_right _ (.tail _ hq)
  have backT : ∀ {c'' : Cx} {s' : Shared} {v : Value}, Nx c' c'' → ThC g (env0 :: outer) c'' E v s' → Th g A c E v s' := fun {c''} {s'} {v} N T => by
    have e1 : c''.keep = (c.L, oL) :: c.all := N.keep
    refine ⟨env0, outer, hfr, ?_⟩
    have T1 : ThC g (env0 :: outer) { base := c.base, L := c''.L, m := c''.m, keep := c''.cells ++ (c.L, oL) :: c.all, s₀ := c.s₀ } E v s' := T.perm N.base.symm rfl rfl N.s₀.symm fun q hq => by
      have hq' : q ∈ c''.cells ++ ((c.L, oL) :: c.all) := hq
      show q ∈ c''.cells ++ c''.keep
      rw [e1]; exact hq'
    have := T1.leave (h' := s'.heap) FR nL (List.mem_append_right _ (.head _)) (fun q hq => List.mem_append_right _ (.tail _ hq)) ndAll I.fr.above fun Ω Ω => rfl
    exact this
  refine wpAny_mono (hbody _ L' TP c' AO EO CO ρ _ σ _ hρ I3 h) (fun fl s' hf => ?_) fun e s' he => ?_
  · cases fl with
    | next => obtain ⟨c'', ρ', σ', N, _, _, J, q⟩ := hf; exact ⟨.none, σ', .none, back N J, q⟩
    | brk => obtain ⟨c'', ρ', σ', N, _, _, J, q⟩ := hf; exact q.elim
    | cont => exact hf.elim
    | ret v => obtain ⟨c'', N, y, σ', ry, J, q⟩ := hf; exact ⟨y, σ', ry, back N J, q⟩
  · rcases he with ⟨c'', ρ', N, _, _, env1, outer1, hfr1, T⟩ | ⟨c'', N, R⟩
    · rw [Around.frames_deeper hfr] at hfr1
      cases hfr1
      have FR'' : FrOk c'' (envOfC qual scope L' (g.fa f) cdv :: env0 :: outer) := fun e he => by
        obtain ⟨h1, L, h2, h3, h4⟩ := FR' e he
        exact ⟨h1, L, h2, N.base ▸ h3, by rw [N.L, N.keep]; exact h4⟩
      exact T.pop (Around.frames_deeper hfr) FR'' (by rw [N.L]; rfl) fun s'' T' => backT N T'
    · have FR'' : FrOk c'' (envOfC qual scope L' (g.fa f) cdv :: env0 :: outer) := fun e he => by
        obtain ⟨h1, L, h2, h3, h4⟩ := FR' e he
        exact ⟨h1, L, h2, N.base ▸ h3, by rw [N.L, N.keep]; exact h4⟩
      exact R.pop (Around.frames_deeper hfr) FR'' (by rw [N.L]; rfl) fun s'' T' => backT N T'
end
section
set_option tactic.hygienic false
open PySem PySem.W PySem.Calls PyProof.Rows
noncomputable def QuietE (g : Gb) (Φ : SemF) (env : Env) (x : X) (e : Expr) : Prop := ∀ A c, Rm A 0 → Stat g c.base → EnvOk c env → OkE g Φ A c env x e
section
variable {g : Gb} {Φ : SemF} {A : Around} {env : Env} {n : Nat}
theorem ThC.inv {l : List Env} {c : Cx} {E : EX} {v : Value} {s : Shared} (T : ThC g l c E v s) : ∃ e σ, v = .ref e ∧ E σ ∧ Inv g c σ s ∧ ∃ oe, s.heap.get? e = some oe ∧ oe.cls = .ref g.die := by
  obtain ⟨e, σ, D, led, B, a0, rfl, hE, H, W, K, ⟨fl, _, _, _, oe, _, _, _, _, he, ⟨hc, _⟩, _⟩, _⟩ := T
  exact ⟨e, σ, rfl, hE, ⟨D, led, H, W, K⟩, oe, he, hc⟩
theorem Th.flight {c : Cx} (O : AOk g A c n) {E : EX} {v : Value} {s : Shared} {A' : Around} {Er : Value → Shared → Prop} (T : Th g A c E v s) {Q : Unit → Shared → Prop} (h : ∀ s', Th g A c E v s' → Q () s') :
    wpAny (model g.prog g.w) A' (setFlight v none) Q Er s := by
  obtain ⟨env0, outer, hfr, FR⟩ := O.fr
  obtain ⟨e, B, a0, fl, rfl, H, k⟩ := T.step hfr FR
  exact held_setFlight H none fun h' fl' H' Ω u => h _ (k h' fl' H' u)
theorem okS_try {b : SS} {y : X} {body : List Stmt} {id : Str} {np hpos rpos pos : Pos} {e' : Expr} (TP : Top A env) (hb : OkSS g Φ A n env b body) (hq : QuietE g Φ env y e') (hg : GlobN g env id (.ref g.die)) (hx : exmOne g.K (.ref g.die) (.ref g.die) = some true) :
    OkS g Φ A n env (.try b (.cons (.ret y) .nil)) (.Try body [.ExceptHandler (some (.Name id np)) none [.Return (some e') rpos] hpos] [] [] pos) := by
  intro c O EO CO ρ k σ s hρ I hh
  refine wpAny_Try_except (wpAny_mono (hb c O EO CO ρ _ σ s hρ I hh) (fun fl s₁ h₁ => ?_) fun e s₁ h₁ => ?_)
  · cases fl with
    | next => exact wpAny_execs_nil h₁
    | brk => obtain ⟨_, _, _, _, _, _, _, z⟩ := h₁; exact z.elim
    | cont => exact h₁.elim
    | ret v => exact h₁
  · rcases h₁ with ⟨c', ρ', N, CO', hρ', T⟩ | ⟨_, _, _, _, _, _, _, _, _, _, z, _⟩
    · have O' := O.nx N
      have EO' := EO.nx N
      refine T.note O' TP rfl fun s₂ T₂ => ?_
      refine T₂.flight O' fun s₃ T₃ => ?_
      obtain ⟨env0, outer, hfr, T₃⟩ := T₃
      obtain ⟨e, σ₃, rfl, hE, I₃, oe, he, hc⟩ := T₃.inv
      refine wpAny_handleBy_cons (codeAny_handlers_test (name_glob O'.st EO' I₃ hg ?_)) (by intro q; cases q)
      have LT : Looks (model g.prog g.w) s₃.heap (typeOf (.ref e)) (.ref g.die) := hc ▸ (Looks.ld he).andThen .now
      refine (exm_one (I₃.X O'.st) LT hx).here ?_
      refine codeAny_handlers_suite ?_
      have T₃' : Th g A c' (fun σ => exs Φ (.cons (.ret y) .nil) ρ' { k with raise := fun Ω => False, exc := fun Ω Ω => False } σ) (.ref e) s₃ := ⟨env0, outer, hfr, T₃⟩
      refine T₃'.flight O' fun s₄ T₄ => ?_
      obtain ⟨_, _, _, T₄⟩ := T₄
      obtain ⟨_, σ₄, e4, hE₄, I₄, _⟩ := T₄.inv
      have hR : Rm (A.mark (some (.ref e))) 0 := ⟨by show A.depth + 0 ≤ 900; have := O.rm.dp; lia, by show A.units + 0 ≤ 9000; have := O.rm.un; lia⟩
      refine wpAny_execs_cons (wpAny_Return_some (wpAny_mono (hq _ c' hR O'.st EO' ρ' hρ' _ _ σ₄ s₄ I₄ hE₄) (fun v s₅ h₅ => ?_) fun Ω Ω z => z.no.elim))
      exact ⟨c', N, h₅⟩
    · exact z.elim
end
end
section
set_option tactic.hygienic false
open PySem PySem.W PySem.Calls PyProof.Rows
inductive OwnD (n : Nat) (h₀ h : Heap) (e : Addr) : Option Addr → Prop
  | none : OwnD n h₀ h e none
  | some (d : Addr) (mA : Str → Option Value) (ns : List Str) (ne : d ≠ e) (new : h₀.get? d = none) (hn : h.Ns1 d mA) (hw : PySem.Within mA ns) (hl : ns.length ≤ n) : OwnD n h₀ h e (some d)
noncomputable abbrev excO (C : Addr) (od : Option Addr) (T : Addr) : Obj := ⟨.ref C, od, .fields #[.ref T, .none, .none, .none, .bool false, .none], #[]⟩
inductive ExcAt (n : Nat) (h₀ h : Heap) (e C : Addr) : Prop
  | mk (keep : ∀ b o, b ≠ e → h₀.get? b = some o → h.get? b = some o) (od : Option Addr) (T : Addr) (he : h.get? e = some (excO C od T)) (hd : OwnD n h₀ h e od)
section
variable {prog : Program} {w : World} {A : Around} {E : Value → Shared → Prop} {h₀ h : Heap} {gs : Array GenState} {d : Drawn} {tk : Nat} {os : OsState} {e C : Addr} {name : Str} {v : Value} {n : Nat} {K : Frag}
theorem store_in {D : Addr} {t : Tok} {mA : Str → Option Value} {ns : List Str} (hn : h.Ns1 D mA) (hw : PySem.Within mA ns) (hl : ns.length ≤ 5) {Q : Fin → Shared → Prop}
    (hq : ∀ h' tk', h'.Ns1 D (fun y => if y = name then some v else mA y) → Heap.SameBut D h h' → Q (.done (.ret .none)) ⟨h', gs, d, tk', os⟩) :
    wpAny (model prog w) A (Builtin.ObjectAttr.storeInDict D (.str name t) name v) Q E ⟨h, gs, d, tk, os⟩ := by
  unfold Builtin.ObjectAttr.storeInDict
  refine wpAny_bind (wpAny_pure (wpAny_bind (wpAny_nsSet1 hn fun h' hn' hs => ?_)))
  obtain ⟨oD, esD, epD, hoD, hdD, hcD⟩ := hn'.count (Within.cons name v hw)
  refine wpAny_bind (wpAny_lookBehind hoD (by rw [hdD]; exact pastItsLine_dict (Nat.le_trans hcD (by rw [List.length_cons, sizeLine_eq]; lia))) ?_)
  exact wpAny_pure (hq h' _ hn' hs)
theorem own_store {t : Tok} {b : Bool} (X : K.In h) (hC : (clsIn K C).any (·.hasDict) = true) (W : ExcAt n h₀ h e C) (hs : n ≤ 5) {Q : Fin → Shared → Prop} (hq : ∀ h' tk', ExcAt (n + 1) h₀ h' e C → Q (.done (.ret .none)) ⟨h', gs, d, tk', os⟩) :
    wpAny (model prog w) A (Builtin.ObjectAttr.storeInOwnDict (.ref e) (.ref C) (.str name t) name v b) Q E ⟨h, gs, d, tk, os⟩ := by
  obtain ⟨hk, od, T, he, hd⟩ := W
  obtain ⟨cd, hc, hd'⟩ := any_some hC
  refine wpAny_bind (wpAny_pure (wpAny_bind (wpAny_bind (wpAny_loadPart he (wpAny_bind ((looks_clsIn (h := h) X hc).here ?_))))))
  rw [hd']
  cases hd with
  | some D mA ns ne new hn hw hl =>
    refine wpAny_pure (a := some D) (wpAny_bind (wpAny_pure ?_))
    exact store_in (t := t) hn hw (Nat.le_trans hl hs) fun h' tk' hn' hs' => hq h' tk' ⟨fun b o hb hb' => (hs'.2 b fun z => by rw [z, new] at hb'; cases hb').trans (hk b o hb hb'), some D, T, (hs'.2 e ne.symm).trans he, .some D _ _ ne new hn' (Within.cons name v hw) (by rw [List.length_cons]; lia)⟩
  | none =>
    have hs : h.objs.size ≠ e := fun z => Nat.lt_irrefl _ (z ▸ Heap.lt_size he)
    refine wpAny_bind (wpAny_alloc' ?_)
    have hx₁ : (h.push { cls := .type "dict", data := .dict #[] }).get? e = some (excO C none T) := Heap.get?_push_of_some _ he
    refine wpAny_bind (wpAny_update' hx₁ ?_)
    refine wpAny_pure (wpAny_bind (wpAny_pure ?_))
    have hgd : ((h.push { cls := .type "dict", data := .dict #[] }).update e fun o => { cls := o.cls, dict := some h.objs.size, data := o.data, slots := o.slots }).get? h.objs.size
        = some { cls := .type "dict", data := .dict #[] } :=
      (Heap.get?_update_ne _ _ _ _ hs).trans (Heap.get?_push_at rfl rfl)
    refine store_in (t := t) (Heap.Ns1.of_empty ⟨_, #[], _, hgd, rfl, fun e he => absurd he (by simp), fun Ω => rfl⟩) Within.nil (Nat.zero_le _) fun h' tk' hn' hs' => hq h' tk' ⟨fun b o hb hb' => ?_, some h.objs.size, T, ?_, .some h.objs.size _ _ hs ?_ hn' (Within.cons name v Within.nil) (Nat.succ_le_succ (Nat.zero_le _))⟩
    · have z := hk b o hb hb'
      exact (hs'.2 b (Nat.ne_of_lt (Heap.lt_size z))).trans ((Heap.get?_update_ne _ _ _ _ hb).trans (Heap.get?_push_of_some _ z))
    · exact (hs'.2 e (Ne.symm hs)).trans (Heap.get?_update_self _ hx₁ rfl)
    · cases q : h₀.get? h.objs.size with
      | none => rfl
      | some o => have z := hk _ o hs q; exact absurd (Heap.lt_size z) (Nat.lt_irrefl _)
inductive MroX (K : Frag) (C : Addr) : Prop | mk (cd : ClassData) (P : Addr) (h : clsIn K C = some cd) (m : cd.mro = [.ref C, .ref P, .type "Exception", .type "BaseException", .type "object"])
structure ExcCls (K : Frag) (C : Addr) : Prop where
  hd : (clsIn K C).any (·.hasDict) = true
  mro : MroX K C
  sa : findIn K (.ref C) "__setattr__" = some (some (.builtin "object.__setattr__"))
theorem exc_osa (X : K.In h) (Y : ExcCls K C) (ht : takerIn K C name = some none) (W : ExcAt n h₀ h e C) (hs : n ≤ 5) {R : Result → Shared → Prop} (ty : Looks (model prog w) h (typeOf (.ref e)) (.ref C))
    (hq : ∀ h' tk', ExcAt (n + 1) h₀ h' e C → R (.ok (.ret .none)) ⟨h', gs, d, tk', os⟩) {t : Tok} :
    codeAny (model prog w) A (.call (.builtin "object.__setattr__") ⟨[.ref e, .str name t, v], []⟩) R ⟨h, gs, d, tk, os⟩ := by
  have SF := PySem.F.store_object
  obtain ⟨cd, P, hc, ho⟩ := Y.mro
  have sub : Looks (model prog w) h (isInstance (.ref e) (.type "object")) true := ty.andThen (looks_mroIn X (by unfold mroIn; rw [hc, Option.bind_some, ho]; rfl))
  refine codeAny_call_builtin SF.slot.plain SF.entry (check_slot (i := "object.__setattr__") (owner := "object") (n := "__setattr__") (self := .ref e) (rest := [.str name t, v]) SF.kind SF.split sub (SF.args (.ref e) (.str name t) v) ?_)
  obtain ⟨attr, ha, hr⟩ := Option.bind_eq_some_iff.mp ht
  have hm : Looks (model prog w) h (mroOf (.ref C)) cd.mro := (looks_clsIn X hc).andThen .now
  have L3 : Looks (model prog w) h (Builtin.ObjectAttr.storeTaker? attr) none := by
    cases attr with
    | none => exact .now
    | some a =>
      obtain ⟨b, hb, hr⟩ := Option.map_eq_some_iff.mp hr
      refine (looks_takesIn X hb).andThen ?_
      cases b with
      | true => cases hr
      | false => exact .now
  rw [osa_eq, refuse_eq]
  refine wpAny_bind (wpAny_bind (ty.here (wpAny_bind (hm.here ?_))))
  rw [ho, refuseLoop_ref, refuseLoop_ref, PySem.F.store_Exception.passes]
  refine wpAny_pure (wpAny_bind (ty.here (wpAny_bind ((looks_findIn X ha).here (wpAny_bind (L3.here ?_))))))
  exact own_store X Y.hd W hs hq
theorem exc_set (X : K.In h) (Y : ExcCls K C) (ht : takerIn K C name = some none) (W : ExcAt n h₀ h e C) (hs : n ≤ 5) {Q : Unit → Shared → Prop} (hq : ∀ h' tk', ExcAt (n + 1) h₀ h' e C → Q () ⟨h', gs, d, tk', os⟩) :
    wpAny (model prog w) A (setAttr (.ref e) name v) Q E ⟨h, gs, d, tk, os⟩ := by
  have ty : Looks (model prog w) h (typeOf (.ref e)) (.ref C) := by
    obtain ⟨_, _, _, he, _⟩ := W
    exact (Looks.ld he).andThen .now
  refine wpAny_bind (wpAny_mkText (wpAny_bind (wpAny_bind (wpAny_bind (ty _ _ _ _ (fun Ω Ω e => e) (looks_findIn X Y.sa _ _ _ _ (fun Ω Ω e => e) (wpAny_holding ?_)))))))
  rw [PySem.F.store_object.slot.bind]
  exact wpAny_bind (wpAny_pure (wpAny_bind (wpAny_call (exc_osa X Y ht W hs ty fun h' tk' W' => wpAny_pure (M := model prog w) (E := E) (wpAny_pure (M := model prog w) (E := E) (hq h' tk' W'))))))
end
end
section
set_option tactic.hygienic false
open PySem PySem.W PySem.Calls PyProof.Rows
inductive Sup (g : Gb) (base : Heap) (vB F : Value) : Prop
  | mk (kept : Kept g F) (get : ∀ (A : Around) (E : Value → Shared → Prop) (Q : Value × List Value → Shared → Prop) (pl : Sem Bool) (s : Shared) (L : Addr) (m : Str → Option Value), Fr base L s.heap m → Q (F, []) { s with toks := s.toks + 1 } → wpAny (model g.prog g.w) A (getMethod vB "__init__" pl) Q E s)
theorem sup_cls {g : Gb} {base : Heap} (X : g.K.In base) {C f : Addr} (h1 : specialIn g.K (.ref C) "__getattribute__" = some (some (.builtin "type.__getattribute__"))) (h2 : typeIn g.K (.ref C) = some (.type "type")) (h3 : readsIn g.K C (.type "type") = true)
    (h4 : findCls g.K (.ref C) (.type "type") "__init__" = some (.val (.ref f))) (hk : keepIn g.K (.ref f) = true) : Sup g base (.ref C) (.ref f) :=
  ⟨kept_K hk, fun A E Q pl s L m F h => method_of_cls F X h1 (cls_val F X h2 h3 h4 rfl h)⟩
theorem sup_exc {g : Gb} {base : Heap} (X : g.K.In base) (h : findCls g.K (.type "Exception") (.type "type") "__init__" = some (.val (.builtin "Exception.__init__"))) : Sup g base (.type "Exception") (.builtin "Exception.__init__") :=
  ⟨kept_builtin, fun A E Q pl s L m F hq => method_type F X (by kernel_rfl) (by decide +kernel) h rfl hq⟩
inductive IniAt (g : Gb) (f : Addr) (x B fld : Str) (vB : Value) (arg : Expr) : Prop
  | mk (name qual : Str) (params : Arguments) (scope : Scope) (kV doc pm : Value) (an : Option Addr) (cdv ct oc : Value) (od : Option Addr) (osl : Array (Option Value)) (p1 p2 p3 p4 p5 p6 p7 p8 p9 : Pos)
    (hk : g.K.lookup f = some ⟨oc, od, .func (fnOf name qual params [.Expr (.Call (.Attribute (.Name B p1) "__init__" p2) [.Name "self" p3, arg] [] p4) p5, .Assign [.Attribute (.Name "self" p6) fld p7] (.Name x p8) p9] scope .none kV doc pm an cdv ct), osl⟩)
    (P : PlainP params ["self", x]) (ne : x ≠ ("self" : Str)) (cd : codeIn g.K cdv qual = true) (k1 : scope.names.lookup ("self" : Str) = some .local) (k2 : scope.names.lookup x = some .local) (nc : ∀ y ∈ scope.names, y.2 ≠ .cell)
    (sk : scope.kind = .function) (co : scope.isCoroutine = false) (ge : scope.isGenerator = false) (hl : (p2.endLine == p4.line) = true) (kB : ∀ L, GlobN g (envOf qual scope L f cdv) B vB) (t : takerIn g.K g.die fld = some none) (xd : (x == ("__debug__" : Str)) = false)
    (ha : plainArgs [.Name "self" p3, arg] = true)
inductive Made (n : Nat) (g : Gb) (h : Heap) (gs : Array GenState) (d : Drawn) (os : OsState) (e : Addr) (r : Value) (s : Shared) : Prop
  | mk (hr : r = .none) (h' : Heap) (tk' : Nat) (hs : s = ⟨h', gs, d, tk', os⟩) (W : ExcAt n h h' e g.die)
noncomputable def CallX (g : Gb) (base : Heap) (n : Nat) (F : Value) : Prop := ∀ (A : Around) (E : Value → Shared → Prop) (h : Heap) (gs : Array GenState) (d : Drawn) (tk : Nat) (os : OsState) (e T : Addr) (v : Value), A.depth + n ≤ 910 → base.objs.size ≤ h.objs.size → base.StaysIn h → base.get? e = none → h.get? e = some (excO g.die none T) →
  wpAny (model g.prog g.w) A (call F [.ref e, v]) (Made n g h gs d os e) E ⟨h, gs, d, tk, os⟩
theorem name_g {g : Gb} {base : Heap} {A : Around} {E : Value → Shared → Prop} {s : Shared} {env : Env} (S : Stat g base) (k : base.StaysIn s.heap) (hk : env.scope.kind = .function) (hg : env.globals = mainGlobals) (hb : env.builtins = builtinsNs) {x : Str} {v : Value} {pos : Pos} (h : GlobN g env x v)
    {Q : Value → Shared → Prop} (hq : Q v s) : wpAny (model g.prog g.w) A (eval (.Name x pos) env) Q E s := by
  cases h with
  | glob hx e hd => exact Name_function_global hk hx (loadGlobal_global (mg := g.mg) (hg ▸ S.T.g.keeps k) (mg_of S.X S.T.g e) hq) hd
  | bltn hx e hv hn hd => exact Name_function_global hk hx (loadGlobal_builtin (mg := g.mg) (mb := g.mb) (hg ▸ S.T.g.keeps k) (mg_none_of S.X S.T.g e) (hb ▸ S.T.b.keeps k) ((S.T.builtins x hn).trans hv) hq) hd
theorem ExcAt.back {n : Nat} {h h₁ h' : Heap} {e C : Addr} (k : ∀ b o, h.get? b = some o → h₁.get? b = some o) (W : ExcAt n h₁ h' e C) : ExcAt n h h' e C := by
  obtain ⟨hk, od, T, he, hd⟩ := W
  refine ⟨fun b o hb z => hk b o hb (k b o z), od, T, he, ?_⟩
  cases hd with
  | none => exact .none
  | some d mA ns ne new hn hw hl => exact .some d mA ns ne (by cases q : h.get? d with | none => rfl | some o => have z := k _ _ q; rw [new] at z; cases z) hn hw hl
theorem init_step {g : Gb} {base : Heap} {n : Nat} {f : Addr} {x B fld : Str} {vB F : Value} {arg : Expr} (S : Stat g base) (Y : ExcCls g.K g.die) (I : IniAt g f x B fld vB arg) (U : Sup g base vB F) (hn : n ≤ 5) (H : CallX g base n F)
    (ha : ∀ (A : Around) (E : Value → Shared → Prop) (Q : Value → Shared → Prop) (s : Shared) env L m v, env.scope.kind = .function → (∀ y, env.kindOf y = env.scope.names.lookup y) → env.scope.names.lookup x = some .local → env.locals = L → Fr base L s.heap m → m x = some v → (∀ u tk, Q u { s with toks := tk }) → wpAny (model g.prog g.w) A (eval arg env) Q E s) :
    CallX g base (n + 1) (.ref f) := by
  intro A E h gs d tk os e T v hd low hb he₀ he
  obtain ⟨name, qual, params, scope, kV, doc, pm, an, cdv, ct, oc, od, osl, p1, p2, p3, p4, p5, p6, p7, p8, p9, hk, P, ne, cd, k1, k2, nc, sk, co, ge, hl, kB, t, xd, hpa⟩ := I
  obtain ⟨kept, get⟩ := U
  have X : g.K.In h := S.X.keeps hb
  refine wpAny_call (codeAny_call_def (s := ⟨h, gs, d, tk, os⟩) (fd := fnOf name qual params _ scope .none kV doc pm an cdv ct) (binds := [("self" : Str), x].zip [.ref e, v]) (Nat.lt_of_le_of_lt (show A.depth ≤ 910 by lia) (by decide)) (X _ _ hk) rfl (S.T.nolimit.keeps hb) (codeRec_of X cd) rfl
    (bind_any (r := none) (n1 := [("self" : Str), x]) (n2 := []) (vals := [.ref e, v]) P (by rw [List.nodup_cons]; exact ⟨fun m => ne (List.mem_singleton.mp m).symm, List.nodup_cons.mpr ⟨List.not_mem_nil, List.nodup_nil⟩⟩) rfl rfl rfl fun Ω Ω Ω Ω q => wpAny_pure q) nc (fun y hy => ?_) (fun h₁ hns keep => ?_) co ge sk)
  · rcases List.mem_cons.mp hy with rfl | hy
    · exact k1
    · rcases List.mem_cons.mp hy with rfl | hy
      · exact k2
      · cases hy
  have base₁ : base.StaysIn h₁ := fun b o z => keep b o (hb b o z)
  have low₁ : base.objs.size ≤ h₁.objs.size := by
    obtain ⟨o, es, ep, ho, r⟩ := hns
    exact Nat.le_trans low (Nat.le_of_lt (Heap.lt_size ho))
  have F₁ : Fr base h.objs.size h₁ (fun y => ([("self" : Str), x].zip [.ref e, v]).reverse.lookup y) := ⟨hns, base₁, low⟩
  have m1 : ([("self" : Str), x].zip [.ref e, v]).reverse.lookup ("self" : Str) = some (.ref e) := by
    show (match ("self" : Str) == x with | true => some v | false => (match ("self" : Str) == "self" with | true => some (.ref e) | false => none)) = _
    rw [beq_eq_false_iff_ne.mpr (Ne.symm ne)]; rfl
  have m2 : ([("self" : Str), x].zip [.ref e, v]).reverse.lookup x = some v := by
    show (match x == x with | true => some v | false => _) = _
    rw [beq_self_eq_true]
  have neL : h.objs.size ≠ e := fun z => Nat.lt_irrefl _ (z ▸ Heap.lt_size he)
  refine wpAny_execs_cons (wpAny_Expr_any ?_ (by unfold interactive; show (scope.kind == .module && _) = false; rw [sk]; rfl) rfl)
  refine meth_rule (g := g) rfl hpa hl (by show 2 < 30; decide) (name_g S base₁ sk rfl rfl (kB _) fun pl => get _ _ _ pl _ _ _ F₁ ?_)
  refine callWith_g kept hpa (S.X.keeps base₁) ?_
  refine Calls.spliced_cons (wpAny_Name (wpAny_loadName_local sk k1 hns m1 ?_) (by decide))
  refine Calls.spliced_cons (ha _ _ _ _ _ _ _ v sk (fun Ω => rfl) k2 rfl F₁ m2 fun u tk₁ => Calls.spliced_nil ⟨S.X.keeps base₁, ?_⟩)
  refine wpAny_mono (H _ _ h₁ gs d tk₁ os e T u (by show A.depth + 1 + n ≤ 910; lia) low₁ base₁ he₀ (keep _ _ he)) (fun r s' z => ?_) fun Ω Ω z => z
  obtain ⟨hr, h₂, tk₂, hs, W⟩ := z
  subst hs
  have base₂ : base.StaysIn h₂ := fun b o z => by
    obtain ⟨hk, _⟩ := W
    exact hk b o (fun q => by rw [q, he₀] at z; cases z) (base₁ b o z)
  have ns₂ : h₂.Ns h.objs.size (fun y => ([("self" : Str), x].zip [.ref e, v]).reverse.lookup y) := by
    obtain ⟨hk, _⟩ := W
    obtain ⟨o, es, ep, ho, r⟩ := hns
    exact ⟨o, es, ep, hk _ o neL ho, r⟩
  refine wpAny_execs_cons (plainObj_wpAny_Assign_Attribute (wpAny_Name (wpAny_loadName_local sk k2 ns₂ m2 ?_) xd) rfl)
  refine wpAny_Name (wpAny_loadName_local sk k1 ns₂ m1 ?_) (by decide)
  refine exc_set (S.X.keeps base₂) Y t W hn fun h' tk' W' => wpAny_execs_nil ?_
  exact ⟨rfl, h', tk', rfl, W'.back keep⟩
end
section
set_option tactic.hygienic false
open PySem PySem.W PySem.Calls PyProof.Rows
noncomputable abbrev excB : List Value := [.type "Exception", .type "BaseException", .type "object"]
inductive DieO (K : Frag) (C : Addr) : Prop
  | mk (n q : Str) (N : Addr) (bs bm : List Value) (hd : Bool) (sn : List Str) (sub : List Value) (ab : Bool) (col : Option Bool) (dd : Option Addr) (k0 k1 k2 k3 k5 : Option Value)
    (e : K.lookup C = some (excClassObj n q C N bs bm hd sn sub ab col dd k0 k1 k2 k3 k5 "Exception.__new__")) (O : Over bm) (hb : bm.contains (.type "BaseException") = true)
inductive DieF (g : Gb) : Prop
  | mk (obj : DieO g.K g.die) (Y : ExcCls g.K g.die) (fD fP P : Addr) (kk : Nat) (pk pt : Pos) (keep : keepIn g.K (.ref g.die) = true) (hi : findIn g.K (.ref g.die) "__init__" = some (some (.ref fD))) (ht : typeIn g.K (.ref fD) = some (.type "function"))
    (ID : IniAt g fD "value" "PerlError" "value" (.ref P) (.Constant (.str "died") kk pk)) (IP : IniAt g fP "text" "Exception" "text" (.type "Exception") (.Name "text" pt))
    (h1 : specialIn g.K (.ref P) "__getattribute__" = some (some (.builtin "type.__getattribute__"))) (h2 : typeIn g.K (.ref P) = some (.type "type")) (h3 : readsIn g.K P (.type "type") = true) (h4 : findCls g.K (.ref P) (.type "type") "__init__" = some (.val (.ref fP))) (h5 : keepIn g.K (.ref fP) = true)
    (h6 : findCls g.K (.type "Exception") (.type "type") "__init__" = some (.val (.builtin "Exception.__init__")))
theorem callX_exc {g : Gb} {base : Heap} (S : Stat g base) (D : DieO g.K g.die) : CallX g base 0 (.builtin "Exception.__init__") := by
  intro A E h gs d tk os e T v hd low hb he₀ he
  obtain ⟨n, q, N, bs, bm, hd, sn, sub, ab, col, dd, k0, k1, k2, k3, k5, hC, O, _⟩ := D
  exact die_base PySem.F.excBase_Exception O (hb _ _ (S.X _ _ hC)) he fun h' k e' => ⟨rfl, h', _, rfl, k, none, _, e', .none⟩
theorem callX_die {g : Gb} {base : Heap} (S : Stat g base) {fD fP P : Addr} {kk : Nat} {pk pt : Pos} (D : DieO g.K g.die) (Y : ExcCls g.K g.die)
    (ID : IniAt g fD "value" "PerlError" "value" (.ref P) (.Constant (.str "died") kk pk)) (IP : IniAt g fP "text" "Exception" "text" (.type "Exception") (.Name "text" pt)) (U : Sup g base (.ref P) (.ref fP)) (V : Sup g base (.type "Exception") (.builtin "Exception.__init__")) :
    CallX g base 2 (.ref fD) :=
  init_step S Y ID U (by decide) (init_step S Y IP V (by decide) (callX_exc S D) fun A E Q s env L m v hk ek el hL F hm k => wpAny_Name (wpAny_loadName_local hk ((ek _).trans el) (hL ▸ F.ns) hm (k _ _)) (by decide))
    fun A E Q s env L m v hk ek el hL F hm k => wpAny_Constant_str (k _ _)
theorem raise_made {M : Model} {A : Around} {E : Value → Shared → Prop} {env : Env} {C : Addr} {K : Frag} {s : Shared} {x : Sem Value} {Q : Flow → Shared → Prop} (D : DieO K C) (hh : A.handled = none)
    (h : wpAny M A x (fun v s₁ => ∃ e od T, v = .ref e ∧ K.In s₁.heap ∧ s₁.heap.get? e = some (excO C od T) ∧ E (.ref e) s₁) E s) :
    wpAny M A (raiseStmt env (some x) none) Q E s := by
  obtain ⟨n, q, N, bs, bm, hd, sn, sub, ab, col, dd, k0, k1, k2, k3, k5, hC, O, hb⟩ := D
  have hcB : (Value.ref C :: bm).contains (.type "BaseException") = true := by rw [List.contains_cons, hb, Bool.or_true]
  unfold raiseStmt
  refine wpAny_bind (wpAny_mono h (fun v s₁ h₁ => ?_) fun Ω Ω x => x)
  obtain ⟨e, od, T, rfl, X, he, hE⟩ := h₁
  replace hC := X _ _ hC
  obtain ⟨hp, g, d, tk, os⟩ := s₁
  repeat (first | with_reducible refine wpAny_loadPart_at he ?_ | with_reducible refine wpAny_loadPart_at hC ?_ | (with_reducible refine wpAny_isSubtype_exc hC ?_; rw [hcB]) | wp_step)
  exact wpAny_raiseNew_none hh hE
theorem okS_raise {g : Gb} {Φ : SemF} {n : Nat} {A : Around} {env : Env} {id id' : Str} {v : Value} {p p' q pos : Pos} (D : DieF g) (G : GlobN g env id (.ref g.die)) (G' : GlobN g env id' v) : OkS g Φ A n env .raise (.Raise (some (.Call (.Name id p) [.Name id' p'] [] q)) none pos) := by
  intro c O EO CO ρ k σ s hρ I hh
  obtain ⟨DO, Y, fD, fP, P, kk, pk, pt, keep, hi, ht, ID, IP, h1, h2, h3, h4, h5, h6⟩ := D
  have S := O.st
  have CX := callX_die S DO Y ID IP (sup_cls S.X h1 h2 h3 h4 h5) (sup_exc S.X h6)
  rw [arm_exec_Raise]
  refine wpAny_bind (wpAny_standAt (raise_made DO O.hA (wpAny_bind (wpAny_mono ?_ (fun v s₃ h₃ => wpAny_bind (wpAny_standAt (wpAny_pure h₃))) fun Ω Ω x => x))))
  refine wpAny_Call_Name_kw (name_glob S EO I G ?_)
  refine callWith_g (kept_K keep) rfl (I.X S) ?_
  refine Calls.spliced_cons (name_glob S EO I G' ?_)
  refine Calls.spliced_nil ⟨I.X S, ?_⟩
  obtain ⟨nn, qq, N, bs, bm, hd, sn, sub, ab, col, dd, k0, k1, k2, k3, k5, hC, OV, _⟩ := DO
  obtain ⟨hp, gs, d, tk, os⟩ := s
  refine die_call PySem.F.excBase_Exception OV (I.X S _ _ hC) (I.X S) hi ht (fun h' e M => ?_) (by show 1 ≤ _; unfold sizeLine; decide)
  obtain ⟨hk, hn, T, he, -, -⟩ := M
  obtain ⟨DD, led, H, At, K⟩ := I
  have kb : c.base.StaysIn h' := fun b o z => hk b o (At.fr.keep b o z)
  have f := At.fresh hn
  refine wpAny_mono (CX _ _ h' gs d tk os e T v (by have := O.rm.dp; show A.depth + 1 + 2 ≤ 910; lia) ?_ kb f.1 he) (fun r s' z => ?_) fun Ω Ω z => z
  · obtain ⟨o, _, _, ho, _⟩ := At.fr.ns
    exact Nat.le_trans At.fr.above (Nat.le_of_lt (Heap.lt_size (hk _ _ ho)))
  obtain ⟨hr, h₂, tk₂, hs, W⟩ := z
  subst hs
  refine ⟨hr, ?_⟩
  obtain ⟨wk, od, T', he', -⟩ := W
  have k₂ : ∀ b o, hp.get? b = some o → h₂.get? b = some o := fun b o z => wk b o (fun q => by rw [q, hn] at z; cases z) (hk b o z)
  exact ⟨e, od, T', rfl, S.X.keeps fun b o z => k₂ b o (At.fr.keep b o z), he', .inr ⟨c, Nx.rfl, ⟨e, σ, DD, led, _, _, _, rfl, hh, H, At.keeps k₂, K, fun o => none_of_ledger At hn, f.1, he', rfl, rfl, rfl, rfl⟩⟩⟩
end
section
set_option tactic.hygienic false
open PySem PySem.W PySem.Calls PyProof.Rows
theorem ff {Q : Prop} (h : false = true) : Q := (Bool.false_ne_true h).elim
theorem andL {a b : Bool} (h : (a && b) = true) : a = true := (Bool.and_eq_true_iff.mp h).1
theorem andR {a b : Bool} (h : (a && b) = true) : b = true := (Bool.and_eq_true_iff.mp h).2
theorem eqB {α : Type} [BEq α] [LawfulBEq α] {P : α → Prop} {a b : α} (h : (a == b) = true) (k : P b) : P a := (beq_iff_eq.mp h).symm ▸ k
noncomputable def onConst (e : Expr) (p : Const → Bool) : Bool := @Expr.casesOn (fun Ω => Bool) e (fun Ω Ω Ω => false) (fun Ω Ω Ω => false) (fun Ω Ω Ω Ω => false) (fun Ω Ω Ω => false) (fun Ω Ω Ω Ω => false) (fun Ω Ω Ω Ω => false) (fun Ω Ω Ω => false) (fun Ω Ω Ω => false) (fun Ω Ω Ω Ω => false) (fun Ω Ω Ω Ω => false) (fun Ω Ω Ω Ω Ω => false) (fun Ω Ω Ω Ω => false) (fun Ω Ω => false) (fun Ω Ω => false) (fun Ω Ω => false) (fun Ω Ω Ω Ω => false) (fun Ω Ω Ω Ω => false) (fun Ω Ω Ω Ω => false) (fun Ω Ω => false) (fun a Ω Ω => p a) (fun Ω Ω Ω => false) (fun Ω Ω Ω => false) (fun Ω Ω => false) (fun Ω Ω => false) (fun Ω Ω => false) (fun Ω Ω Ω => false) (fun Ω Ω Ω Ω => false)
theorem onConst_el {P : Expr → Prop} {e : Expr} {p : Const → Bool} (h : onConst e p = true) (k : ∀ a b c, p a = true → P (.Constant a b c)) : P e := @Expr.casesOn (fun e => onConst e p = true → P e) e (fun Ω Ω Ω => ff) (fun Ω Ω Ω => ff) (fun Ω Ω Ω Ω => ff) (fun Ω Ω Ω => ff) (fun Ω Ω Ω Ω => ff) (fun Ω Ω Ω Ω => ff) (fun Ω Ω Ω => ff) (fun Ω Ω Ω => ff) (fun Ω Ω Ω Ω => ff) (fun Ω Ω Ω Ω => ff) (fun Ω Ω Ω Ω Ω => ff) (fun Ω Ω Ω Ω => ff) (fun Ω Ω => ff) (fun Ω Ω => ff) (fun Ω Ω => ff) (fun Ω Ω Ω Ω => ff) (fun Ω Ω Ω Ω => ff) (fun Ω Ω Ω Ω => ff) (fun Ω Ω => ff) (fun a b c h => k a b c h) (fun Ω Ω Ω => ff) (fun Ω Ω Ω => ff) (fun Ω Ω => ff) (fun Ω Ω => ff) (fun Ω Ω => ff) (fun Ω Ω Ω => ff) (fun Ω Ω Ω Ω => ff) h
noncomputable def onName (e : Expr) (p : Str → Bool) : Bool := @Expr.casesOn (fun Ω => Bool) e (fun Ω Ω Ω => false) (fun Ω Ω Ω => false) (fun Ω Ω Ω Ω => false) (fun Ω Ω Ω => false) (fun Ω Ω Ω Ω => false) (fun Ω Ω Ω Ω => false) (fun Ω Ω Ω => false) (fun Ω Ω Ω => false) (fun Ω Ω Ω Ω => false) (fun Ω Ω Ω Ω => false) (fun Ω Ω Ω Ω Ω => false) (fun Ω Ω Ω Ω => false) (fun Ω Ω => false) (fun Ω Ω => false) (fun Ω Ω => false) (fun Ω Ω Ω Ω => false) (fun Ω Ω Ω Ω => false) (fun Ω Ω Ω Ω => false) (fun Ω Ω => false) (fun Ω Ω Ω => false) (fun Ω Ω Ω => false) (fun Ω Ω Ω => false) (fun Ω Ω => false) (fun a Ω => p a) (fun Ω Ω => false) (fun Ω Ω Ω => false) (fun Ω Ω Ω Ω => false)
theorem onName_el {P : Expr → Prop} {e : Expr} {p : Str → Bool} (h : onName e p = true) (k : ∀ a b, p a = true → P (.Name a b)) : P e := @Expr.casesOn (fun e => onName e p = true → P e) e (fun Ω Ω Ω => ff) (fun Ω Ω Ω => ff) (fun Ω Ω Ω Ω => ff) (fun Ω Ω Ω => ff) (fun Ω Ω Ω Ω => ff) (fun Ω Ω Ω Ω => ff) (fun Ω Ω Ω => ff) (fun Ω Ω Ω => ff) (fun Ω Ω Ω Ω => ff) (fun Ω Ω Ω Ω => ff) (fun Ω Ω Ω Ω Ω => ff) (fun Ω Ω Ω Ω => ff) (fun Ω Ω => ff) (fun Ω Ω => ff) (fun Ω Ω => ff) (fun Ω Ω Ω Ω => ff) (fun Ω Ω Ω Ω => ff) (fun Ω Ω Ω Ω => ff) (fun Ω Ω => ff) (fun Ω Ω Ω => ff) (fun Ω Ω Ω => ff) (fun Ω Ω Ω => ff) (fun Ω Ω => ff) (fun a b h => k a b h) (fun Ω Ω => ff) (fun Ω Ω Ω => ff) (fun Ω Ω Ω Ω => ff) h
noncomputable def onNameP (e : Expr) (p : Str → Pos → Bool) : Bool := @Expr.casesOn (fun Ω => Bool) e (fun Ω Ω Ω => false) (fun Ω Ω Ω => false) (fun Ω Ω Ω Ω => false) (fun Ω Ω Ω => false) (fun Ω Ω Ω Ω => false) (fun Ω Ω Ω Ω => false) (fun Ω Ω Ω => false) (fun Ω Ω Ω => false) (fun Ω Ω Ω Ω => false) (fun Ω Ω Ω Ω => false) (fun Ω Ω Ω Ω Ω => false) (fun Ω Ω Ω Ω => false) (fun Ω Ω => false) (fun Ω Ω => false) (fun Ω Ω => false) (fun Ω Ω Ω Ω => false) (fun Ω Ω Ω Ω => false) (fun Ω Ω Ω Ω => false) (fun Ω Ω => false) (fun Ω Ω Ω => false) (fun Ω Ω Ω => false) (fun Ω Ω Ω => false) (fun Ω Ω => false) (fun a b => p a b) (fun Ω Ω => false) (fun Ω Ω Ω => false) (fun Ω Ω Ω Ω => false)
theorem onNameP_el {P : Expr → Prop} {e : Expr} {p : Str → Pos → Bool} (h : onNameP e p = true) (k : ∀ a b, p a b = true → P (.Name a b)) : P e := @Expr.casesOn (fun e => onNameP e p = true → P e) e (fun Ω Ω Ω => ff) (fun Ω Ω Ω => ff) (fun Ω Ω Ω Ω => ff) (fun Ω Ω Ω => ff) (fun Ω Ω Ω Ω => ff) (fun Ω Ω Ω Ω => ff) (fun Ω Ω Ω => ff) (fun Ω Ω Ω => ff) (fun Ω Ω Ω Ω => ff) (fun Ω Ω Ω Ω => ff) (fun Ω Ω Ω Ω Ω => ff) (fun Ω Ω Ω Ω => ff) (fun Ω Ω => ff) (fun Ω Ω => ff) (fun Ω Ω => ff) (fun Ω Ω Ω Ω => ff) (fun Ω Ω Ω Ω => ff) (fun Ω Ω Ω Ω => ff) (fun Ω Ω => ff) (fun Ω Ω Ω => ff) (fun Ω Ω Ω => ff) (fun Ω Ω Ω => ff) (fun Ω Ω => ff) (fun a b h => k a b h) (fun Ω Ω => ff) (fun Ω Ω Ω => ff) (fun Ω Ω Ω Ω => ff) h
noncomputable def onAttr (e : Expr) (p : Expr → Str → Pos → Bool) : Bool := @Expr.casesOn (fun Ω => Bool) e (fun Ω Ω Ω => false) (fun Ω Ω Ω => false) (fun Ω Ω Ω Ω => false) (fun Ω Ω Ω => false) (fun Ω Ω Ω Ω => false) (fun Ω Ω Ω Ω => false) (fun Ω Ω Ω => false) (fun Ω Ω Ω => false) (fun Ω Ω Ω Ω => false) (fun Ω Ω Ω Ω => false) (fun Ω Ω Ω Ω Ω => false) (fun Ω Ω Ω Ω => false) (fun Ω Ω => false) (fun Ω Ω => false) (fun Ω Ω => false) (fun Ω Ω Ω Ω => false) (fun Ω Ω Ω Ω => false) (fun Ω Ω Ω Ω => false) (fun Ω Ω => false) (fun Ω Ω Ω => false) (fun a b c => p a b c) (fun Ω Ω Ω => false) (fun Ω Ω => false) (fun Ω Ω => false) (fun Ω Ω => false) (fun Ω Ω Ω => false) (fun Ω Ω Ω Ω => false)
theorem onAttr_el {P : Expr → Prop} {e : Expr} {p : Expr → Str → Pos → Bool} (h : onAttr e p = true) (k : ∀ a b c, p a b c = true → P (.Attribute a b c)) : P e := @Expr.casesOn (fun e => onAttr e p = true → P e) e (fun Ω Ω Ω => ff) (fun Ω Ω Ω => ff) (fun Ω Ω Ω Ω => ff) (fun Ω Ω Ω => ff) (fun Ω Ω Ω Ω => ff) (fun Ω Ω Ω Ω => ff) (fun Ω Ω Ω => ff) (fun Ω Ω Ω => ff) (fun Ω Ω Ω Ω => ff) (fun Ω Ω Ω Ω => ff) (fun Ω Ω Ω Ω Ω => ff) (fun Ω Ω Ω Ω => ff) (fun Ω Ω => ff) (fun Ω Ω => ff) (fun Ω Ω => ff) (fun Ω Ω Ω Ω => ff) (fun Ω Ω Ω Ω => ff) (fun Ω Ω Ω Ω => ff) (fun Ω Ω => ff) (fun Ω Ω Ω => ff) (fun a b c h => k a b c h) (fun Ω Ω Ω => ff) (fun Ω Ω => ff) (fun Ω Ω => ff) (fun Ω Ω => ff) (fun Ω Ω Ω => ff) (fun Ω Ω Ω Ω => ff) h
noncomputable def onUn (e : Expr) (p : UnaryOp → Expr → Bool) : Bool := @Expr.casesOn (fun Ω => Bool) e (fun Ω Ω Ω => false) (fun Ω Ω Ω => false) (fun Ω Ω Ω Ω => false) (fun a b Ω => p a b) (fun Ω Ω Ω Ω => false) (fun Ω Ω Ω Ω => false) (fun Ω Ω Ω => false) (fun Ω Ω Ω => false) (fun Ω Ω Ω Ω => false) (fun Ω Ω Ω Ω => false) (fun Ω Ω Ω Ω Ω => false) (fun Ω Ω Ω Ω => false) (fun Ω Ω => false) (fun Ω Ω => false) (fun Ω Ω => false) (fun Ω Ω Ω Ω => false) (fun Ω Ω Ω Ω => false) (fun Ω Ω Ω Ω => false) (fun Ω Ω => false) (fun Ω Ω Ω => false) (fun Ω Ω Ω => false) (fun Ω Ω Ω => false) (fun Ω Ω => false) (fun Ω Ω => false) (fun Ω Ω => false) (fun Ω Ω Ω => false) (fun Ω Ω Ω Ω => false)
theorem onUn_el {P : Expr → Prop} {e : Expr} {p : UnaryOp → Expr → Bool} (h : onUn e p = true) (k : ∀ a b c, p a b = true → P (.UnaryOp a b c)) : P e := @Expr.casesOn (fun e => onUn e p = true → P e) e (fun Ω Ω Ω => ff) (fun Ω Ω Ω => ff) (fun Ω Ω Ω Ω => ff) (fun a b c h => k a b c h) (fun Ω Ω Ω Ω => ff) (fun Ω Ω Ω Ω => ff) (fun Ω Ω Ω => ff) (fun Ω Ω Ω => ff) (fun Ω Ω Ω Ω => ff) (fun Ω Ω Ω Ω => ff) (fun Ω Ω Ω Ω Ω => ff) (fun Ω Ω Ω Ω => ff) (fun Ω Ω => ff) (fun Ω Ω => ff) (fun Ω Ω => ff) (fun Ω Ω Ω Ω => ff) (fun Ω Ω Ω Ω => ff) (fun Ω Ω Ω Ω => ff) (fun Ω Ω => ff) (fun Ω Ω Ω => ff) (fun Ω Ω Ω => ff) (fun Ω Ω Ω => ff) (fun Ω Ω => ff) (fun Ω Ω => ff) (fun Ω Ω => ff) (fun Ω Ω Ω => ff) (fun Ω Ω Ω Ω => ff) h
noncomputable def onCmp (e : Expr) (p : Expr → List CmpOp → List Expr → Bool) : Bool := @Expr.casesOn (fun Ω => Bool) e (fun Ω Ω Ω => false) (fun Ω Ω Ω => false) (fun Ω Ω Ω Ω => false) (fun Ω Ω Ω => false) (fun Ω Ω Ω Ω => false) (fun Ω Ω Ω Ω => false) (fun Ω Ω Ω => false) (fun Ω Ω Ω => false) (fun Ω Ω Ω Ω => false) (fun Ω Ω Ω Ω => false) (fun Ω Ω Ω Ω Ω => false) (fun Ω Ω Ω Ω => false) (fun Ω Ω => false) (fun Ω Ω => false) (fun Ω Ω => false) (fun a b c Ω => p a b c) (fun Ω Ω Ω Ω => false) (fun Ω Ω Ω Ω => false) (fun Ω Ω => false) (fun Ω Ω Ω => false) (fun Ω Ω Ω => false) (fun Ω Ω Ω => false) (fun Ω Ω => false) (fun Ω Ω => false) (fun Ω Ω => false) (fun Ω Ω Ω => false) (fun Ω Ω Ω Ω => false)
theorem onCmp_el {P : Expr → Prop} {e : Expr} {p : Expr → List CmpOp → List Expr → Bool} (h : onCmp e p = true) (k : ∀ a b c d, p a b c = true → P (.Compare a b c d)) : P e := @Expr.casesOn (fun e => onCmp e p = true → P e) e (fun Ω Ω Ω => ff) (fun Ω Ω Ω => ff) (fun Ω Ω Ω Ω => ff) (fun Ω Ω Ω => ff) (fun Ω Ω Ω Ω => ff) (fun Ω Ω Ω Ω => ff) (fun Ω Ω Ω => ff) (fun Ω Ω Ω => ff) (fun Ω Ω Ω Ω => ff) (fun Ω Ω Ω Ω => ff) (fun Ω Ω Ω Ω Ω => ff) (fun Ω Ω Ω Ω => ff) (fun Ω Ω => ff) (fun Ω Ω => ff) (fun Ω Ω => ff) (fun a b c d h => k a b c d h) (fun Ω Ω Ω Ω => ff) (fun Ω Ω Ω Ω => ff) (fun Ω Ω => ff) (fun Ω Ω Ω => ff) (fun Ω Ω Ω => ff) (fun Ω Ω Ω => ff) (fun Ω Ω => ff) (fun Ω Ω => ff) (fun Ω Ω => ff) (fun Ω Ω Ω => ff) (fun Ω Ω Ω Ω => ff) h
noncomputable def onBin (e : Expr) (p : Expr → Operator → Expr → Bool) : Bool := @Expr.casesOn (fun Ω => Bool) e (fun Ω Ω Ω => false) (fun Ω Ω Ω => false) (fun a b c Ω => p a b c) (fun Ω Ω Ω => false) (fun Ω Ω Ω Ω => false) (fun Ω Ω Ω Ω => false) (fun Ω Ω Ω => false) (fun Ω Ω Ω => false) (fun Ω Ω Ω Ω => false) (fun Ω Ω Ω Ω => false) (fun Ω Ω Ω Ω Ω => false) (fun Ω Ω Ω Ω => false) (fun Ω Ω => false) (fun Ω Ω => false) (fun Ω Ω => false) (fun Ω Ω Ω Ω => false) (fun Ω Ω Ω Ω => false) (fun Ω Ω Ω Ω => false) (fun Ω Ω => false) (fun Ω Ω Ω => false) (fun Ω Ω Ω => false) (fun Ω Ω Ω => false) (fun Ω Ω => false) (fun Ω Ω => false) (fun Ω Ω => false) (fun Ω Ω Ω => false) (fun Ω Ω Ω Ω => false)
theorem onBin_el {P : Expr → Prop} {e : Expr} {p : Expr → Operator → Expr → Bool} (h : onBin e p = true) (k : ∀ a b c d, p a b c = true → P (.BinOp a b c d)) : P e := @Expr.casesOn (fun e => onBin e p = true → P e) e (fun Ω Ω Ω => ff) (fun Ω Ω Ω => ff) (fun a b c d h => k a b c d h) (fun Ω Ω Ω => ff) (fun Ω Ω Ω Ω => ff) (fun Ω Ω Ω Ω => ff) (fun Ω Ω Ω => ff) (fun Ω Ω Ω => ff) (fun Ω Ω Ω Ω => ff) (fun Ω Ω Ω Ω => ff) (fun Ω Ω Ω Ω Ω => ff) (fun Ω Ω Ω Ω => ff) (fun Ω Ω => ff) (fun Ω Ω => ff) (fun Ω Ω => ff) (fun Ω Ω Ω Ω => ff) (fun Ω Ω Ω Ω => ff) (fun Ω Ω Ω Ω => ff) (fun Ω Ω => ff) (fun Ω Ω Ω => ff) (fun Ω Ω Ω => ff) (fun Ω Ω Ω => ff) (fun Ω Ω => ff) (fun Ω Ω => ff) (fun Ω Ω => ff) (fun Ω Ω Ω => ff) (fun Ω Ω Ω Ω => ff) h
noncomputable def onBool (e : Expr) (p : BoolOp → List Expr → Bool) : Bool := @Expr.casesOn (fun Ω => Bool) e (fun a b Ω => p a b) (fun Ω Ω Ω => false) (fun Ω Ω Ω Ω => false) (fun Ω Ω Ω => false) (fun Ω Ω Ω Ω => false) (fun Ω Ω Ω Ω => false) (fun Ω Ω Ω => false) (fun Ω Ω Ω => false) (fun Ω Ω Ω Ω => false) (fun Ω Ω Ω Ω => false) (fun Ω Ω Ω Ω Ω => false) (fun Ω Ω Ω Ω => false) (fun Ω Ω => false) (fun Ω Ω => false) (fun Ω Ω => false) (fun Ω Ω Ω Ω => false) (fun Ω Ω Ω Ω => false) (fun Ω Ω Ω Ω => false) (fun Ω Ω => false) (fun Ω Ω Ω => false) (fun Ω Ω Ω => false) (fun Ω Ω Ω => false) (fun Ω Ω => false) (fun Ω Ω => false) (fun Ω Ω => false) (fun Ω Ω Ω => false) (fun Ω Ω Ω Ω => false)
theorem onBool_el {P : Expr → Prop} {e : Expr} {p : BoolOp → List Expr → Bool} (h : onBool e p = true) (k : ∀ a b c, p a b = true → P (.BoolOp a b c)) : P e := @Expr.casesOn (fun e => onBool e p = true → P e) e (fun a b c h => k a b c h) (fun Ω Ω Ω => ff) (fun Ω Ω Ω Ω => ff) (fun Ω Ω Ω => ff) (fun Ω Ω Ω Ω => ff) (fun Ω Ω Ω Ω => ff) (fun Ω Ω Ω => ff) (fun Ω Ω Ω => ff) (fun Ω Ω Ω Ω => ff) (fun Ω Ω Ω Ω => ff) (fun Ω Ω Ω Ω Ω => ff) (fun Ω Ω Ω Ω => ff) (fun Ω Ω => ff) (fun Ω Ω => ff) (fun Ω Ω => ff) (fun Ω Ω Ω Ω => ff) (fun Ω Ω Ω Ω => ff) (fun Ω Ω Ω Ω => ff) (fun Ω Ω => ff) (fun Ω Ω Ω => ff) (fun Ω Ω Ω => ff) (fun Ω Ω Ω => ff) (fun Ω Ω => ff) (fun Ω Ω => ff) (fun Ω Ω => ff) (fun Ω Ω Ω => ff) (fun Ω Ω Ω Ω => ff) h
noncomputable def onIf (e : Expr) (p : Expr → Expr → Expr → Bool) : Bool := @Expr.casesOn (fun Ω => Bool) e (fun Ω Ω Ω => false) (fun Ω Ω Ω => false) (fun Ω Ω Ω Ω => false) (fun Ω Ω Ω => false) (fun Ω Ω Ω Ω => false) (fun a b c Ω => p a b c) (fun Ω Ω Ω => false) (fun Ω Ω Ω => false) (fun Ω Ω Ω Ω => false) (fun Ω Ω Ω Ω => false) (fun Ω Ω Ω Ω Ω => false) (fun Ω Ω Ω Ω => false) (fun Ω Ω => false) (fun Ω Ω => false) (fun Ω Ω => false) (fun Ω Ω Ω Ω => false) (fun Ω Ω Ω Ω => false) (fun Ω Ω Ω Ω => false) (fun Ω Ω => false) (fun Ω Ω Ω => false) (fun Ω Ω Ω => false) (fun Ω Ω Ω => false) (fun Ω Ω => false) (fun Ω Ω => false) (fun Ω Ω => false) (fun Ω Ω Ω => false) (fun Ω Ω Ω Ω => false)
theorem onIf_el {P : Expr → Prop} {e : Expr} {p : Expr → Expr → Expr → Bool} (h : onIf e p = true) (k : ∀ a b c d, p a b c = true → P (.IfExp a b c d)) : P e := @Expr.casesOn (fun e => onIf e p = true → P e) e (fun Ω Ω Ω => ff) (fun Ω Ω Ω => ff) (fun Ω Ω Ω Ω => ff) (fun Ω Ω Ω => ff) (fun Ω Ω Ω Ω => ff) (fun a b c d h => k a b c d h) (fun Ω Ω Ω => ff) (fun Ω Ω Ω => ff) (fun Ω Ω Ω Ω => ff) (fun Ω Ω Ω Ω => ff) (fun Ω Ω Ω Ω Ω => ff) (fun Ω Ω Ω Ω => ff) (fun Ω Ω => ff) (fun Ω Ω => ff) (fun Ω Ω => ff) (fun Ω Ω Ω Ω => ff) (fun Ω Ω Ω Ω => ff) (fun Ω Ω Ω Ω => ff) (fun Ω Ω => ff) (fun Ω Ω Ω => ff) (fun Ω Ω Ω => ff) (fun Ω Ω Ω => ff) (fun Ω Ω => ff) (fun Ω Ω => ff) (fun Ω Ω => ff) (fun Ω Ω Ω => ff) (fun Ω Ω Ω Ω => ff) h
noncomputable def onCall (e : Expr) (p : Expr → List Expr → List Keyword → Pos → Bool) : Bool := @Expr.casesOn (fun Ω => Bool) e (fun Ω Ω Ω => false) (fun Ω Ω Ω => false) (fun Ω Ω Ω Ω => false) (fun Ω Ω Ω => false) (fun Ω Ω Ω Ω => false) (fun Ω Ω Ω Ω => false) (fun Ω Ω Ω => false) (fun Ω Ω Ω => false) (fun Ω Ω Ω Ω => false) (fun Ω Ω Ω Ω => false) (fun Ω Ω Ω Ω Ω => false) (fun Ω Ω Ω Ω => false) (fun Ω Ω => false) (fun Ω Ω => false) (fun Ω Ω => false) (fun Ω Ω Ω Ω => false) (fun a b c d => p a b c d) (fun Ω Ω Ω Ω => false) (fun Ω Ω => false) (fun Ω Ω Ω => false) (fun Ω Ω Ω => false) (fun Ω Ω Ω => false) (fun Ω Ω => false) (fun Ω Ω => false) (fun Ω Ω => false) (fun Ω Ω Ω => false) (fun Ω Ω Ω Ω => false)
theorem onCall_el {P : Expr → Prop} {e : Expr} {p : Expr → List Expr → List Keyword → Pos → Bool} (h : onCall e p = true) (k : ∀ a b c d, p a b c d = true → P (.Call a b c d)) : P e := @Expr.casesOn (fun e => onCall e p = true → P e) e (fun Ω Ω Ω => ff) (fun Ω Ω Ω => ff) (fun Ω Ω Ω Ω => ff) (fun Ω Ω Ω => ff) (fun Ω Ω Ω Ω => ff) (fun Ω Ω Ω Ω => ff) (fun Ω Ω Ω => ff) (fun Ω Ω Ω => ff) (fun Ω Ω Ω Ω => ff) (fun Ω Ω Ω Ω => ff) (fun Ω Ω Ω Ω Ω => ff) (fun Ω Ω Ω Ω => ff) (fun Ω Ω => ff) (fun Ω Ω => ff) (fun Ω Ω => ff) (fun Ω Ω Ω Ω => ff) (fun a b c d h => k a b c d h) (fun Ω Ω Ω Ω => ff) (fun Ω Ω => ff) (fun Ω Ω Ω => ff) (fun Ω Ω Ω => ff) (fun Ω Ω Ω => ff) (fun Ω Ω => ff) (fun Ω Ω => ff) (fun Ω Ω => ff) (fun Ω Ω Ω => ff) (fun Ω Ω Ω Ω => ff) h
noncomputable def onSub (e : Expr) (p : Expr → Expr → Bool) : Bool := @Expr.casesOn (fun Ω => Bool) e (fun Ω Ω Ω => false) (fun Ω Ω Ω => false) (fun Ω Ω Ω Ω => false) (fun Ω Ω Ω => false) (fun Ω Ω Ω Ω => false) (fun Ω Ω Ω Ω => false) (fun Ω Ω Ω => false) (fun Ω Ω Ω => false) (fun Ω Ω Ω Ω => false) (fun Ω Ω Ω Ω => false) (fun Ω Ω Ω Ω Ω => false) (fun Ω Ω Ω Ω => false) (fun Ω Ω => false) (fun Ω Ω => false) (fun Ω Ω => false) (fun Ω Ω Ω Ω => false) (fun Ω Ω Ω Ω => false) (fun Ω Ω Ω Ω => false) (fun Ω Ω => false) (fun Ω Ω Ω => false) (fun Ω Ω Ω => false) (fun a b Ω => p a b) (fun Ω Ω => false) (fun Ω Ω => false) (fun Ω Ω => false) (fun Ω Ω Ω => false) (fun Ω Ω Ω Ω => false)
theorem onSub_el {P : Expr → Prop} {e : Expr} {p : Expr → Expr → Bool} (h : onSub e p = true) (k : ∀ a b c, p a b = true → P (.Subscript a b c)) : P e := @Expr.casesOn (fun e => onSub e p = true → P e) e (fun Ω Ω Ω => ff) (fun Ω Ω Ω => ff) (fun Ω Ω Ω Ω => ff) (fun Ω Ω Ω => ff) (fun Ω Ω Ω Ω => ff) (fun Ω Ω Ω Ω => ff) (fun Ω Ω Ω => ff) (fun Ω Ω Ω => ff) (fun Ω Ω Ω Ω => ff) (fun Ω Ω Ω Ω => ff) (fun Ω Ω Ω Ω Ω => ff) (fun Ω Ω Ω Ω => ff) (fun Ω Ω => ff) (fun Ω Ω => ff) (fun Ω Ω => ff) (fun Ω Ω Ω Ω => ff) (fun Ω Ω Ω Ω => ff) (fun Ω Ω Ω Ω => ff) (fun Ω Ω => ff) (fun Ω Ω Ω => ff) (fun Ω Ω Ω => ff) (fun a b c h => k a b c h) (fun Ω Ω => ff) (fun Ω Ω => ff) (fun Ω Ω => ff) (fun Ω Ω Ω => ff) (fun Ω Ω Ω Ω => ff) h
noncomputable def onSlice (e : Expr) (p : Option Expr → Option Expr → Option Expr → Bool) : Bool := @Expr.casesOn (fun Ω => Bool) e (fun Ω Ω Ω => false) (fun Ω Ω Ω => false) (fun Ω Ω Ω Ω => false) (fun Ω Ω Ω => false) (fun Ω Ω Ω Ω => false) (fun Ω Ω Ω Ω => false) (fun Ω Ω Ω => false) (fun Ω Ω Ω => false) (fun Ω Ω Ω Ω => false) (fun Ω Ω Ω Ω => false) (fun Ω Ω Ω Ω Ω => false) (fun Ω Ω Ω Ω => false) (fun Ω Ω => false) (fun Ω Ω => false) (fun Ω Ω => false) (fun Ω Ω Ω Ω => false) (fun Ω Ω Ω Ω => false) (fun Ω Ω Ω Ω => false) (fun Ω Ω => false) (fun Ω Ω Ω => false) (fun Ω Ω Ω => false) (fun Ω Ω Ω => false) (fun Ω Ω => false) (fun Ω Ω => false) (fun Ω Ω => false) (fun Ω Ω Ω => false) (fun a b c Ω => p a b c)
theorem onSlice_el {P : Expr → Prop} {e : Expr} {p : Option Expr → Option Expr → Option Expr → Bool} (h : onSlice e p = true) (k : ∀ a b c d, p a b c = true → P (.Slice a b c d)) : P e := @Expr.casesOn (fun e => onSlice e p = true → P e) e (fun Ω Ω Ω => ff) (fun Ω Ω Ω => ff) (fun Ω Ω Ω Ω => ff) (fun Ω Ω Ω => ff) (fun Ω Ω Ω Ω => ff) (fun Ω Ω Ω Ω => ff) (fun Ω Ω Ω => ff) (fun Ω Ω Ω => ff) (fun Ω Ω Ω Ω => ff) (fun Ω Ω Ω Ω => ff) (fun Ω Ω Ω Ω Ω => ff) (fun Ω Ω Ω Ω => ff) (fun Ω Ω => ff) (fun Ω Ω => ff) (fun Ω Ω => ff) (fun Ω Ω Ω Ω => ff) (fun Ω Ω Ω Ω => ff) (fun Ω Ω Ω Ω => ff) (fun Ω Ω => ff) (fun Ω Ω Ω => ff) (fun Ω Ω Ω => ff) (fun Ω Ω Ω => ff) (fun Ω Ω => ff) (fun Ω Ω => ff) (fun Ω Ω => ff) (fun Ω Ω Ω => ff) (fun a b c d h => k a b c d h) h
noncomputable def onList (e : Expr) (p : List Expr → Bool) : Bool := @Expr.casesOn (fun Ω => Bool) e (fun Ω Ω Ω => false) (fun Ω Ω Ω => false) (fun Ω Ω Ω Ω => false) (fun Ω Ω Ω => false) (fun Ω Ω Ω Ω => false) (fun Ω Ω Ω Ω => false) (fun Ω Ω Ω => false) (fun Ω Ω Ω => false) (fun Ω Ω Ω Ω => false) (fun Ω Ω Ω Ω => false) (fun Ω Ω Ω Ω Ω => false) (fun Ω Ω Ω Ω => false) (fun Ω Ω => false) (fun Ω Ω => false) (fun Ω Ω => false) (fun Ω Ω Ω Ω => false) (fun Ω Ω Ω Ω => false) (fun Ω Ω Ω Ω => false) (fun Ω Ω => false) (fun Ω Ω Ω => false) (fun Ω Ω Ω => false) (fun Ω Ω Ω => false) (fun Ω Ω => false) (fun Ω Ω => false) (fun a Ω => p a) (fun Ω Ω Ω => false) (fun Ω Ω Ω Ω => false)
theorem onList_el {P : Expr → Prop} {e : Expr} {p : List Expr → Bool} (h : onList e p = true) (k : ∀ a b, p a = true → P (.List a b)) : P e := @Expr.casesOn (fun e => onList e p = true → P e) e (fun Ω Ω Ω => ff) (fun Ω Ω Ω => ff) (fun Ω Ω Ω Ω => ff) (fun Ω Ω Ω => ff) (fun Ω Ω Ω Ω => ff) (fun Ω Ω Ω Ω => ff) (fun Ω Ω Ω => ff) (fun Ω Ω Ω => ff) (fun Ω Ω Ω Ω => ff) (fun Ω Ω Ω Ω => ff) (fun Ω Ω Ω Ω Ω => ff) (fun Ω Ω Ω Ω => ff) (fun Ω Ω => ff) (fun Ω Ω => ff) (fun Ω Ω => ff) (fun Ω Ω Ω Ω => ff) (fun Ω Ω Ω Ω => ff) (fun Ω Ω Ω Ω => ff) (fun Ω Ω => ff) (fun Ω Ω Ω => ff) (fun Ω Ω Ω => ff) (fun Ω Ω Ω => ff) (fun Ω Ω => ff) (fun Ω Ω => ff) (fun a b h => k a b h) (fun Ω Ω Ω => ff) (fun Ω Ω Ω Ω => ff) h
noncomputable def onTup (e : Expr) (p : List Expr → Bool) : Bool := @Expr.casesOn (fun Ω => Bool) e (fun Ω Ω Ω => false) (fun Ω Ω Ω => false) (fun Ω Ω Ω Ω => false) (fun Ω Ω Ω => false) (fun Ω Ω Ω Ω => false) (fun Ω Ω Ω Ω => false) (fun Ω Ω Ω => false) (fun Ω Ω Ω => false) (fun Ω Ω Ω Ω => false) (fun Ω Ω Ω Ω => false) (fun Ω Ω Ω Ω Ω => false) (fun Ω Ω Ω Ω => false) (fun Ω Ω => false) (fun Ω Ω => false) (fun Ω Ω => false) (fun Ω Ω Ω Ω => false) (fun Ω Ω Ω Ω => false) (fun Ω Ω Ω Ω => false) (fun Ω Ω => false) (fun Ω Ω Ω => false) (fun Ω Ω Ω => false) (fun Ω Ω Ω => false) (fun Ω Ω => false) (fun Ω Ω => false) (fun Ω Ω => false) (fun a Ω Ω => p a) (fun Ω Ω Ω Ω => false)
theorem onTup_el {P : Expr → Prop} {e : Expr} {p : List Expr → Bool} (h : onTup e p = true) (k : ∀ a b c, p a = true → P (.Tuple a b c)) : P e := @Expr.casesOn (fun e => onTup e p = true → P e) e (fun Ω Ω Ω => ff) (fun Ω Ω Ω => ff) (fun Ω Ω Ω Ω => ff) (fun Ω Ω Ω => ff) (fun Ω Ω Ω Ω => ff) (fun Ω Ω Ω Ω => ff) (fun Ω Ω Ω => ff) (fun Ω Ω Ω => ff) (fun Ω Ω Ω Ω => ff) (fun Ω Ω Ω Ω => ff) (fun Ω Ω Ω Ω Ω => ff) (fun Ω Ω Ω Ω => ff) (fun Ω Ω => ff) (fun Ω Ω => ff) (fun Ω Ω => ff) (fun Ω Ω Ω Ω => ff) (fun Ω Ω Ω Ω => ff) (fun Ω Ω Ω Ω => ff) (fun Ω Ω => ff) (fun Ω Ω Ω => ff) (fun Ω Ω Ω => ff) (fun Ω Ω Ω => ff) (fun Ω Ω => ff) (fun Ω Ω => ff) (fun Ω Ω => ff) (fun a b c h => k a b c h) (fun Ω Ω Ω Ω => ff) h
noncomputable def onDict (e : Expr) (p : List (Option Expr) → List Expr → Bool) : Bool := @Expr.casesOn (fun Ω => Bool) e (fun Ω Ω Ω => false) (fun Ω Ω Ω => false) (fun Ω Ω Ω Ω => false) (fun Ω Ω Ω => false) (fun Ω Ω Ω Ω => false) (fun Ω Ω Ω Ω => false) (fun a b Ω => p a b) (fun Ω Ω Ω => false) (fun Ω Ω Ω Ω => false) (fun Ω Ω Ω Ω => false) (fun Ω Ω Ω Ω Ω => false) (fun Ω Ω Ω Ω => false) (fun Ω Ω => false) (fun Ω Ω => false) (fun Ω Ω => false) (fun Ω Ω Ω Ω => false) (fun Ω Ω Ω Ω => false) (fun Ω Ω Ω Ω => false) (fun Ω Ω => false) (fun Ω Ω Ω => false) (fun Ω Ω Ω => false) (fun Ω Ω Ω => false) (fun Ω Ω => false) (fun Ω Ω => false) (fun Ω Ω => false) (fun Ω Ω Ω => false) (fun Ω Ω Ω Ω => false)
theorem onDict_el {P : Expr → Prop} {e : Expr} {p : List (Option Expr) → List Expr → Bool} (h : onDict e p = true) (k : ∀ a b c, p a b = true → P (.Dict a b c)) : P e := @Expr.casesOn (fun e => onDict e p = true → P e) e (fun Ω Ω Ω => ff) (fun Ω Ω Ω => ff) (fun Ω Ω Ω Ω => ff) (fun Ω Ω Ω => ff) (fun Ω Ω Ω Ω => ff) (fun Ω Ω Ω Ω => ff) (fun a b c h => k a b c h) (fun Ω Ω Ω => ff) (fun Ω Ω Ω Ω => ff) (fun Ω Ω Ω Ω => ff) (fun Ω Ω Ω Ω Ω => ff) (fun Ω Ω Ω Ω => ff) (fun Ω Ω => ff) (fun Ω Ω => ff) (fun Ω Ω => ff) (fun Ω Ω Ω Ω => ff) (fun Ω Ω Ω Ω => ff) (fun Ω Ω Ω Ω => ff) (fun Ω Ω => ff) (fun Ω Ω Ω => ff) (fun Ω Ω Ω => ff) (fun Ω Ω Ω => ff) (fun Ω Ω => ff) (fun Ω Ω => ff) (fun Ω Ω => ff) (fun Ω Ω Ω => ff) (fun Ω Ω Ω Ω => ff) h
noncomputable def onLC0 (e : Expr) (p : Expr → List Comprehension → Scope → Pos → Bool) : Bool := @Expr.casesOn (fun Ω => Bool) e (fun Ω Ω Ω => false) (fun Ω Ω Ω => false) (fun Ω Ω Ω Ω => false) (fun Ω Ω Ω => false) (fun Ω Ω Ω Ω => false) (fun Ω Ω Ω Ω => false) (fun Ω Ω Ω => false) (fun Ω Ω Ω => false) (fun a b c d => p a b c d) (fun Ω Ω Ω Ω => false) (fun Ω Ω Ω Ω Ω => false) (fun Ω Ω Ω Ω => false) (fun Ω Ω => false) (fun Ω Ω => false) (fun Ω Ω => false) (fun Ω Ω Ω Ω => false) (fun Ω Ω Ω Ω => false) (fun Ω Ω Ω Ω => false) (fun Ω Ω => false) (fun Ω Ω Ω => false) (fun Ω Ω Ω => false) (fun Ω Ω Ω => false) (fun Ω Ω => false) (fun Ω Ω => false) (fun Ω Ω => false) (fun Ω Ω Ω => false) (fun Ω Ω Ω Ω => false)
theorem onLC0_el {P : Expr → Prop} {e : Expr} {p : Expr → List Comprehension → Scope → Pos → Bool} (h : onLC0 e p = true) (k : ∀ a b c d, p a b c d = true → P (.ListComp a b c d)) : P e := @Expr.casesOn (fun e => onLC0 e p = true → P e) e (fun Ω Ω Ω => ff) (fun Ω Ω Ω => ff) (fun Ω Ω Ω Ω => ff) (fun Ω Ω Ω => ff) (fun Ω Ω Ω Ω => ff) (fun Ω Ω Ω Ω => ff) (fun Ω Ω Ω => ff) (fun Ω Ω Ω => ff) (fun a b c d h => k a b c d h) (fun Ω Ω Ω Ω => ff) (fun Ω Ω Ω Ω Ω => ff) (fun Ω Ω Ω Ω => ff) (fun Ω Ω => ff) (fun Ω Ω => ff) (fun Ω Ω => ff) (fun Ω Ω Ω Ω => ff) (fun Ω Ω Ω Ω => ff) (fun Ω Ω Ω Ω => ff) (fun Ω Ω => ff) (fun Ω Ω Ω => ff) (fun Ω Ω Ω => ff) (fun Ω Ω Ω => ff) (fun Ω Ω => ff) (fun Ω Ω => ff) (fun Ω Ω => ff) (fun Ω Ω Ω => ff) (fun Ω Ω Ω Ω => ff) h
noncomputable def onAssign (e : Stmt) (p : List Expr → Expr → Pos → Bool) : Bool := @Stmt.casesOn (fun Ω => Bool) e (fun Ω Ω Ω Ω Ω Ω Ω Ω Ω Ω => false) (fun Ω Ω Ω Ω Ω Ω Ω Ω Ω Ω => false) (fun Ω Ω Ω Ω Ω Ω Ω Ω Ω Ω Ω => false) (fun Ω Ω => false) (fun Ω Ω => false) (fun a b c => p a b c) (fun Ω Ω Ω Ω Ω Ω Ω => false) (fun Ω Ω Ω Ω => false) (fun Ω Ω Ω Ω Ω => false) (fun Ω Ω Ω Ω Ω => false) (fun Ω Ω Ω Ω Ω => false) (fun Ω Ω Ω Ω => false) (fun Ω Ω Ω Ω => false) (fun Ω Ω Ω => false) (fun Ω Ω Ω => false) (fun Ω Ω Ω => false) (fun Ω Ω Ω => false) (fun Ω Ω Ω Ω Ω => false) (fun Ω Ω Ω Ω Ω => false) (fun Ω Ω Ω => false) (fun Ω Ω => false) (fun Ω Ω Ω Ω => false) (fun Ω Ω => false) (fun Ω Ω => false) (fun Ω Ω => false) (fun Ω => false) (fun Ω => false) (fun Ω => false)
theorem onAssign_el {P : Stmt → Prop} {e : Stmt} {p : List Expr → Expr → Pos → Bool} (h : onAssign e p = true) (k : ∀ a b c, p a b c = true → P (.Assign a b c)) : P e := @Stmt.casesOn (fun e => onAssign e p = true → P e) e (fun Ω Ω Ω Ω Ω Ω Ω Ω Ω Ω => ff) (fun Ω Ω Ω Ω Ω Ω Ω Ω Ω Ω => ff) (fun Ω Ω Ω Ω Ω Ω Ω Ω Ω Ω Ω => ff) (fun Ω Ω => ff) (fun Ω Ω => ff) (fun a b c h => k a b c h) (fun Ω Ω Ω Ω Ω Ω Ω => ff) (fun Ω Ω Ω Ω => ff) (fun Ω Ω Ω Ω Ω => ff) (fun Ω Ω Ω Ω Ω => ff) (fun Ω Ω Ω Ω Ω => ff) (fun Ω Ω Ω Ω => ff) (fun Ω Ω Ω Ω => ff) (fun Ω Ω Ω => ff) (fun Ω Ω Ω => ff) (fun Ω Ω Ω => ff) (fun Ω Ω Ω => ff) (fun Ω Ω Ω Ω Ω => ff) (fun Ω Ω Ω Ω Ω => ff) (fun Ω Ω Ω => ff) (fun Ω Ω => ff) (fun Ω Ω Ω Ω => ff) (fun Ω Ω => ff) (fun Ω Ω => ff) (fun Ω Ω => ff) (fun Ω => ff) (fun Ω => ff) (fun Ω => ff) h
noncomputable def onAug (e : Stmt) (p : Expr → Operator → Expr → Bool) : Bool := @Stmt.casesOn (fun Ω => Bool) e (fun Ω Ω Ω Ω Ω Ω Ω Ω Ω Ω => false) (fun Ω Ω Ω Ω Ω Ω Ω Ω Ω Ω => false) (fun Ω Ω Ω Ω Ω Ω Ω Ω Ω Ω Ω => false) (fun Ω Ω => false) (fun Ω Ω => false) (fun Ω Ω Ω => false) (fun Ω Ω Ω Ω Ω Ω Ω => false) (fun a b c Ω => p a b c) (fun Ω Ω Ω Ω Ω => false) (fun Ω Ω Ω Ω Ω => false) (fun Ω Ω Ω Ω Ω => false) (fun Ω Ω Ω Ω => false) (fun Ω Ω Ω Ω => false) (fun Ω Ω Ω => false) (fun Ω Ω Ω => false) (fun Ω Ω Ω => false) (fun Ω Ω Ω => false) (fun Ω Ω Ω Ω Ω => false) (fun Ω Ω Ω Ω Ω => false) (fun Ω Ω Ω => false) (fun Ω Ω => false) (fun Ω Ω Ω Ω => false) (fun Ω Ω => false) (fun Ω Ω => false) (fun Ω Ω => false) (fun Ω => false) (fun Ω => false) (fun Ω => false)
theorem onAug_el {P : Stmt → Prop} {e : Stmt} {p : Expr → Operator → Expr → Bool} (h : onAug e p = true) (k : ∀ a b c d, p a b c = true → P (.AugAssign a b c d)) : P e := @Stmt.casesOn (fun e => onAug e p = true → P e) e (fun Ω Ω Ω Ω Ω Ω Ω Ω Ω Ω => ff) (fun Ω Ω Ω Ω Ω Ω Ω Ω Ω Ω => ff) (fun Ω Ω Ω Ω Ω Ω Ω Ω Ω Ω Ω => ff) (fun Ω Ω => ff) (fun Ω Ω => ff) (fun Ω Ω Ω => ff) (fun Ω Ω Ω Ω Ω Ω Ω => ff) (fun a b c d h => k a b c d h) (fun Ω Ω Ω Ω Ω => ff) (fun Ω Ω Ω Ω Ω => ff) (fun Ω Ω Ω Ω Ω => ff) (fun Ω Ω Ω Ω => ff) (fun Ω Ω Ω Ω => ff) (fun Ω Ω Ω => ff) (fun Ω Ω Ω => ff) (fun Ω Ω Ω => ff) (fun Ω Ω Ω => ff) (fun Ω Ω Ω Ω Ω => ff) (fun Ω Ω Ω Ω Ω => ff) (fun Ω Ω Ω => ff) (fun Ω Ω => ff) (fun Ω Ω Ω Ω => ff) (fun Ω Ω => ff) (fun Ω Ω => ff) (fun Ω Ω => ff) (fun Ω => ff) (fun Ω => ff) (fun Ω => ff) h
noncomputable def onExprS (e : Stmt) (p : Expr → Bool) : Bool := @Stmt.casesOn (fun Ω => Bool) e (fun Ω Ω Ω Ω Ω Ω Ω Ω Ω Ω => false) (fun Ω Ω Ω Ω Ω Ω Ω Ω Ω Ω => false) (fun Ω Ω Ω Ω Ω Ω Ω Ω Ω Ω Ω => false) (fun Ω Ω => false) (fun Ω Ω => false) (fun Ω Ω Ω => false) (fun Ω Ω Ω Ω Ω Ω Ω => false) (fun Ω Ω Ω Ω => false) (fun Ω Ω Ω Ω Ω => false) (fun Ω Ω Ω Ω Ω => false) (fun Ω Ω Ω Ω Ω => false) (fun Ω Ω Ω Ω => false) (fun Ω Ω Ω Ω => false) (fun Ω Ω Ω => false) (fun Ω Ω Ω => false) (fun Ω Ω Ω => false) (fun Ω Ω Ω => false) (fun Ω Ω Ω Ω Ω => false) (fun Ω Ω Ω Ω Ω => false) (fun Ω Ω Ω => false) (fun Ω Ω => false) (fun Ω Ω Ω Ω => false) (fun Ω Ω => false) (fun Ω Ω => false) (fun a Ω => p a) (fun Ω => false) (fun Ω => false) (fun Ω => false)
theorem onExprS_el {P : Stmt → Prop} {e : Stmt} {p : Expr → Bool} (h : onExprS e p = true) (k : ∀ a b, p a = true → P (.Expr a b)) : P e := @Stmt.casesOn (fun e => onExprS e p = true → P e) e (fun Ω Ω Ω Ω Ω Ω Ω Ω Ω Ω => ff) (fun Ω Ω Ω Ω Ω Ω Ω Ω Ω Ω => ff) (fun Ω Ω Ω Ω Ω Ω Ω Ω Ω Ω Ω => ff) (fun Ω Ω => ff) (fun Ω Ω => ff) (fun Ω Ω Ω => ff) (fun Ω Ω Ω Ω Ω Ω Ω => ff) (fun Ω Ω Ω Ω => ff) (fun Ω Ω Ω Ω Ω => ff) (fun Ω Ω Ω Ω Ω => ff) (fun Ω Ω Ω Ω Ω => ff) (fun Ω Ω Ω Ω => ff) (fun Ω Ω Ω Ω => ff) (fun Ω Ω Ω => ff) (fun Ω Ω Ω => ff) (fun Ω Ω Ω => ff) (fun Ω Ω Ω => ff) (fun Ω Ω Ω Ω Ω => ff) (fun Ω Ω Ω Ω Ω => ff) (fun Ω Ω Ω => ff) (fun Ω Ω => ff) (fun Ω Ω Ω Ω => ff) (fun Ω Ω => ff) (fun Ω Ω => ff) (fun a b h => k a b h) (fun Ω => ff) (fun Ω => ff) (fun Ω => ff) h
noncomputable def onIfS (e : Stmt) (p : Expr → List Stmt → List Stmt → Bool) : Bool := @Stmt.casesOn (fun Ω => Bool) e (fun Ω Ω Ω Ω Ω Ω Ω Ω Ω Ω => false) (fun Ω Ω Ω Ω Ω Ω Ω Ω Ω Ω => false) (fun Ω Ω Ω Ω Ω Ω Ω Ω Ω Ω Ω => false) (fun Ω Ω => false) (fun Ω Ω => false) (fun Ω Ω Ω => false) (fun Ω Ω Ω Ω Ω Ω Ω => false) (fun Ω Ω Ω Ω => false) (fun Ω Ω Ω Ω Ω => false) (fun Ω Ω Ω Ω Ω => false) (fun Ω Ω Ω Ω Ω => false) (fun Ω Ω Ω Ω => false) (fun a b c Ω => p a b c) (fun Ω Ω Ω => false) (fun Ω Ω Ω => false) (fun Ω Ω Ω => false) (fun Ω Ω Ω => false) (fun Ω Ω Ω Ω Ω => false) (fun Ω Ω Ω Ω Ω => false) (fun Ω Ω Ω => false) (fun Ω Ω => false) (fun Ω Ω Ω Ω => false) (fun Ω Ω => false) (fun Ω Ω => false) (fun Ω Ω => false) (fun Ω => false) (fun Ω => false) (fun Ω => false)
theorem onIfS_el {P : Stmt → Prop} {e : Stmt} {p : Expr → List Stmt → List Stmt → Bool} (h : onIfS e p = true) (k : ∀ a b c d, p a b c = true → P (.If a b c d)) : P e := @Stmt.casesOn (fun e => onIfS e p = true → P e) e (fun Ω Ω Ω Ω Ω Ω Ω Ω Ω Ω => ff) (fun Ω Ω Ω Ω Ω Ω Ω Ω Ω Ω => ff) (fun Ω Ω Ω Ω Ω Ω Ω Ω Ω Ω Ω => ff) (fun Ω Ω => ff) (fun Ω Ω => ff) (fun Ω Ω Ω => ff) (fun Ω Ω Ω Ω Ω Ω Ω => ff) (fun Ω Ω Ω Ω => ff) (fun Ω Ω Ω Ω Ω => ff) (fun Ω Ω Ω Ω Ω => ff) (fun Ω Ω Ω Ω Ω => ff) (fun Ω Ω Ω Ω => ff) (fun a b c d h => k a b c d h) (fun Ω Ω Ω => ff) (fun Ω Ω Ω => ff) (fun Ω Ω Ω => ff) (fun Ω Ω Ω => ff) (fun Ω Ω Ω Ω Ω => ff) (fun Ω Ω Ω Ω Ω => ff) (fun Ω Ω Ω => ff) (fun Ω Ω => ff) (fun Ω Ω Ω Ω => ff) (fun Ω Ω => ff) (fun Ω Ω => ff) (fun Ω Ω => ff) (fun Ω => ff) (fun Ω => ff) (fun Ω => ff) h
noncomputable def onWhile (e : Stmt) (p : Expr → List Stmt → List Stmt → Bool) : Bool := @Stmt.casesOn (fun Ω => Bool) e (fun Ω Ω Ω Ω Ω Ω Ω Ω Ω Ω => false) (fun Ω Ω Ω Ω Ω Ω Ω Ω Ω Ω => false) (fun Ω Ω Ω Ω Ω Ω Ω Ω Ω Ω Ω => false) (fun Ω Ω => false) (fun Ω Ω => false) (fun Ω Ω Ω => false) (fun Ω Ω Ω Ω Ω Ω Ω => false) (fun Ω Ω Ω Ω => false) (fun Ω Ω Ω Ω Ω => false) (fun Ω Ω Ω Ω Ω => false) (fun Ω Ω Ω Ω Ω => false) (fun a b c Ω => p a b c) (fun Ω Ω Ω Ω => false) (fun Ω Ω Ω => false) (fun Ω Ω Ω => false) (fun Ω Ω Ω => false) (fun Ω Ω Ω => false) (fun Ω Ω Ω Ω Ω => false) (fun Ω Ω Ω Ω Ω => false) (fun Ω Ω Ω => false) (fun Ω Ω => false) (fun Ω Ω Ω Ω => false) (fun Ω Ω => false) (fun Ω Ω => false) (fun Ω Ω => false) (fun Ω => false) (fun Ω => false) (fun Ω => false)
theorem onWhile_el {P : Stmt → Prop} {e : Stmt} {p : Expr → List Stmt → List Stmt → Bool} (h : onWhile e p = true) (k : ∀ a b c d, p a b c = true → P (.While a b c d)) : P e := @Stmt.casesOn (fun e => onWhile e p = true → P e) e (fun Ω Ω Ω Ω Ω Ω Ω Ω Ω Ω => ff) (fun Ω Ω Ω Ω Ω Ω Ω Ω Ω Ω => ff) (fun Ω Ω Ω Ω Ω Ω Ω Ω Ω Ω Ω => ff) (fun Ω Ω => ff) (fun Ω Ω => ff) (fun Ω Ω Ω => ff) (fun Ω Ω Ω Ω Ω Ω Ω => ff) (fun Ω Ω Ω Ω => ff) (fun Ω Ω Ω Ω Ω => ff) (fun Ω Ω Ω Ω Ω => ff) (fun Ω Ω Ω Ω Ω => ff) (fun a b c d h => k a b c d h) (fun Ω Ω Ω Ω => ff) (fun Ω Ω Ω => ff) (fun Ω Ω Ω => ff) (fun Ω Ω Ω => ff) (fun Ω Ω Ω => ff) (fun Ω Ω Ω Ω Ω => ff) (fun Ω Ω Ω Ω Ω => ff) (fun Ω Ω Ω => ff) (fun Ω Ω => ff) (fun Ω Ω Ω Ω => ff) (fun Ω Ω => ff) (fun Ω Ω => ff) (fun Ω Ω => ff) (fun Ω => ff) (fun Ω => ff) (fun Ω => ff) h
noncomputable def onFor (e : Stmt) (p : Expr → Expr → List Stmt → List Stmt → Bool) : Bool := @Stmt.casesOn (fun Ω => Bool) e (fun Ω Ω Ω Ω Ω Ω Ω Ω Ω Ω => false) (fun Ω Ω Ω Ω Ω Ω Ω Ω Ω Ω => false) (fun Ω Ω Ω Ω Ω Ω Ω Ω Ω Ω Ω => false) (fun Ω Ω => false) (fun Ω Ω => false) (fun Ω Ω Ω => false) (fun Ω Ω Ω Ω Ω Ω Ω => false) (fun Ω Ω Ω Ω => false) (fun Ω Ω Ω Ω Ω => false) (fun a b c d Ω => p a b c d) (fun Ω Ω Ω Ω Ω => false) (fun Ω Ω Ω Ω => false) (fun Ω Ω Ω Ω => false) (fun Ω Ω Ω => false) (fun Ω Ω Ω => false) (fun Ω Ω Ω => false) (fun Ω Ω Ω => false) (fun Ω Ω Ω Ω Ω => false) (fun Ω Ω Ω Ω Ω => false) (fun Ω Ω Ω => false) (fun Ω Ω => false) (fun Ω Ω Ω Ω => false) (fun Ω Ω => false) (fun Ω Ω => false) (fun Ω Ω => false) (fun Ω => false) (fun Ω => false) (fun Ω => false)
theorem onFor_el {P : Stmt → Prop} {e : Stmt} {p : Expr → Expr → List Stmt → List Stmt → Bool} (h : onFor e p = true) (k : ∀ a b c d e, p a b c d = true → P (.For a b c d e)) : P e := @Stmt.casesOn (fun e => onFor e p = true → P e) e (fun Ω Ω Ω Ω Ω Ω Ω Ω Ω Ω => ff) (fun Ω Ω Ω Ω Ω Ω Ω Ω Ω Ω => ff) (fun Ω Ω Ω Ω Ω Ω Ω Ω Ω Ω Ω => ff) (fun Ω Ω => ff) (fun Ω Ω => ff) (fun Ω Ω Ω => ff) (fun Ω Ω Ω Ω Ω Ω Ω => ff) (fun Ω Ω Ω Ω => ff) (fun Ω Ω Ω Ω Ω => ff) (fun a b c d e h => k a b c d e h) (fun Ω Ω Ω Ω Ω => ff) (fun Ω Ω Ω Ω => ff) (fun Ω Ω Ω Ω => ff) (fun Ω Ω Ω => ff) (fun Ω Ω Ω => ff) (fun Ω Ω Ω => ff) (fun Ω Ω Ω => ff) (fun Ω Ω Ω Ω Ω => ff) (fun Ω Ω Ω Ω Ω => ff) (fun Ω Ω Ω => ff) (fun Ω Ω => ff) (fun Ω Ω Ω Ω => ff) (fun Ω Ω => ff) (fun Ω Ω => ff) (fun Ω Ω => ff) (fun Ω => ff) (fun Ω => ff) (fun Ω => ff) h
noncomputable def onRet (e : Stmt) (p : Option Expr → Bool) : Bool := @Stmt.casesOn (fun Ω => Bool) e (fun Ω Ω Ω Ω Ω Ω Ω Ω Ω Ω => false) (fun Ω Ω Ω Ω Ω Ω Ω Ω Ω Ω => false) (fun Ω Ω Ω Ω Ω Ω Ω Ω Ω Ω Ω => false) (fun a Ω => p a) (fun Ω Ω => false) (fun Ω Ω Ω => false) (fun Ω Ω Ω Ω Ω Ω Ω => false) (fun Ω Ω Ω Ω => false) (fun Ω Ω Ω Ω Ω => false) (fun Ω Ω Ω Ω Ω => false) (fun Ω Ω Ω Ω Ω => false) (fun Ω Ω Ω Ω => false) (fun Ω Ω Ω Ω => false) (fun Ω Ω Ω => false) (fun Ω Ω Ω => false) (fun Ω Ω Ω => false) (fun Ω Ω Ω => false) (fun Ω Ω Ω Ω Ω => false) (fun Ω Ω Ω Ω Ω => false) (fun Ω Ω Ω => false) (fun Ω Ω => false) (fun Ω Ω Ω Ω => false) (fun Ω Ω => false) (fun Ω Ω => false) (fun Ω Ω => false) (fun Ω => false) (fun Ω => false) (fun Ω => false)
theorem onRet_el {P : Stmt → Prop} {e : Stmt} {p : Option Expr → Bool} (h : onRet e p = true) (k : ∀ a b, p a = true → P (.Return a b)) : P e := @Stmt.casesOn (fun e => onRet e p = true → P e) e (fun Ω Ω Ω Ω Ω Ω Ω Ω Ω Ω => ff) (fun Ω Ω Ω Ω Ω Ω Ω Ω Ω Ω => ff) (fun Ω Ω Ω Ω Ω Ω Ω Ω Ω Ω Ω => ff) (fun a b h => k a b h) (fun Ω Ω => ff) (fun Ω Ω Ω => ff) (fun Ω Ω Ω Ω Ω Ω Ω => ff) (fun Ω Ω Ω Ω => ff) (fun Ω Ω Ω Ω Ω => ff) (fun Ω Ω Ω Ω Ω => ff) (fun Ω Ω Ω Ω Ω => ff) (fun Ω Ω Ω Ω => ff) (fun Ω Ω Ω Ω => ff) (fun Ω Ω Ω => ff) (fun Ω Ω Ω => ff) (fun Ω Ω Ω => ff) (fun Ω Ω Ω => ff) (fun Ω Ω Ω Ω Ω => ff) (fun Ω Ω Ω Ω Ω => ff) (fun Ω Ω Ω => ff) (fun Ω Ω => ff) (fun Ω Ω Ω Ω => ff) (fun Ω Ω => ff) (fun Ω Ω => ff) (fun Ω Ω => ff) (fun Ω => ff) (fun Ω => ff) (fun Ω => ff) h
noncomputable def onRaise (e : Stmt) (p : Option Expr → Option Expr → Bool) : Bool := @Stmt.casesOn (fun Ω => Bool) e (fun Ω Ω Ω Ω Ω Ω Ω Ω Ω Ω => false) (fun Ω Ω Ω Ω Ω Ω Ω Ω Ω Ω => false) (fun Ω Ω Ω Ω Ω Ω Ω Ω Ω Ω Ω => false) (fun Ω Ω => false) (fun Ω Ω => false) (fun Ω Ω Ω => false) (fun Ω Ω Ω Ω Ω Ω Ω => false) (fun Ω Ω Ω Ω => false) (fun Ω Ω Ω Ω Ω => false) (fun Ω Ω Ω Ω Ω => false) (fun Ω Ω Ω Ω Ω => false) (fun Ω Ω Ω Ω => false) (fun Ω Ω Ω Ω => false) (fun Ω Ω Ω => false) (fun Ω Ω Ω => false) (fun Ω Ω Ω => false) (fun a b Ω => p a b) (fun Ω Ω Ω Ω Ω => false) (fun Ω Ω Ω Ω Ω => false) (fun Ω Ω Ω => false) (fun Ω Ω => false) (fun Ω Ω Ω Ω => false) (fun Ω Ω => false) (fun Ω Ω => false) (fun Ω Ω => false) (fun Ω => false) (fun Ω => false) (fun Ω => false)
theorem onRaise_el {P : Stmt → Prop} {e : Stmt} {p : Option Expr → Option Expr → Bool} (h : onRaise e p = true) (k : ∀ a b c, p a b = true → P (.Raise a b c)) : P e := @Stmt.casesOn (fun e => onRaise e p = true → P e) e (fun Ω Ω Ω Ω Ω Ω Ω Ω Ω Ω => ff) (fun Ω Ω Ω Ω Ω Ω Ω Ω Ω Ω => ff) (fun Ω Ω Ω Ω Ω Ω Ω Ω Ω Ω Ω => ff) (fun Ω Ω => ff) (fun Ω Ω => ff) (fun Ω Ω Ω => ff) (fun Ω Ω Ω Ω Ω Ω Ω => ff) (fun Ω Ω Ω Ω => ff) (fun Ω Ω Ω Ω Ω => ff) (fun Ω Ω Ω Ω Ω => ff) (fun Ω Ω Ω Ω Ω => ff) (fun Ω Ω Ω Ω => ff) (fun Ω Ω Ω Ω => ff) (fun Ω Ω Ω => ff) (fun Ω Ω Ω => ff) (fun Ω Ω Ω => ff) (fun a b c h => k a b c h) (fun Ω Ω Ω Ω Ω => ff) (fun Ω Ω Ω Ω Ω => ff) (fun Ω Ω Ω => ff) (fun Ω Ω => ff) (fun Ω Ω Ω Ω => ff) (fun Ω Ω => ff) (fun Ω Ω => ff) (fun Ω Ω => ff) (fun Ω => ff) (fun Ω => ff) (fun Ω => ff) h
noncomputable def onTry (e : Stmt) (p : List Stmt → List ExceptHandler → List Stmt → List Stmt → Bool) : Bool := @Stmt.casesOn (fun Ω => Bool) e (fun Ω Ω Ω Ω Ω Ω Ω Ω Ω Ω => false) (fun Ω Ω Ω Ω Ω Ω Ω Ω Ω Ω => false) (fun Ω Ω Ω Ω Ω Ω Ω Ω Ω Ω Ω => false) (fun Ω Ω => false) (fun Ω Ω => false) (fun Ω Ω Ω => false) (fun Ω Ω Ω Ω Ω Ω Ω => false) (fun Ω Ω Ω Ω => false) (fun Ω Ω Ω Ω Ω => false) (fun Ω Ω Ω Ω Ω => false) (fun Ω Ω Ω Ω Ω => false) (fun Ω Ω Ω Ω => false) (fun Ω Ω Ω Ω => false) (fun Ω Ω Ω => false) (fun Ω Ω Ω => false) (fun Ω Ω Ω => false) (fun Ω Ω Ω => false) (fun a b c d Ω => p a b c d) (fun Ω Ω Ω Ω Ω => false) (fun Ω Ω Ω => false) (fun Ω Ω => false) (fun Ω Ω Ω Ω => false) (fun Ω Ω => false) (fun Ω Ω => false) (fun Ω Ω => false) (fun Ω => false) (fun Ω => false) (fun Ω => false)
theorem onTry_el {P : Stmt → Prop} {e : Stmt} {p : List Stmt → List ExceptHandler → List Stmt → List Stmt → Bool} (h : onTry e p = true) (k : ∀ a b c d e, p a b c d = true → P (.Try a b c d e)) : P e := @Stmt.casesOn (fun e => onTry e p = true → P e) e (fun Ω Ω Ω Ω Ω Ω Ω Ω Ω Ω => ff) (fun Ω Ω Ω Ω Ω Ω Ω Ω Ω Ω => ff) (fun Ω Ω Ω Ω Ω Ω Ω Ω Ω Ω Ω => ff) (fun Ω Ω => ff) (fun Ω Ω => ff) (fun Ω Ω Ω => ff) (fun Ω Ω Ω Ω Ω Ω Ω => ff) (fun Ω Ω Ω Ω => ff) (fun Ω Ω Ω Ω Ω => ff) (fun Ω Ω Ω Ω Ω => ff) (fun Ω Ω Ω Ω Ω => ff) (fun Ω Ω Ω Ω => ff) (fun Ω Ω Ω Ω => ff) (fun Ω Ω Ω => ff) (fun Ω Ω Ω => ff) (fun Ω Ω Ω => ff) (fun Ω Ω Ω => ff) (fun a b c d e h => k a b c d e h) (fun Ω Ω Ω Ω Ω => ff) (fun Ω Ω Ω => ff) (fun Ω Ω => ff) (fun Ω Ω Ω Ω => ff) (fun Ω Ω => ff) (fun Ω Ω => ff) (fun Ω Ω => ff) (fun Ω => ff) (fun Ω => ff) (fun Ω => ff) h
noncomputable def onBrk (e : Stmt) (p : Bool) : Bool := @Stmt.casesOn (fun Ω => Bool) e (fun Ω Ω Ω Ω Ω Ω Ω Ω Ω Ω => false) (fun Ω Ω Ω Ω Ω Ω Ω Ω Ω Ω => false) (fun Ω Ω Ω Ω Ω Ω Ω Ω Ω Ω Ω => false) (fun Ω Ω => false) (fun Ω Ω => false) (fun Ω Ω Ω => false) (fun Ω Ω Ω Ω Ω Ω Ω => false) (fun Ω Ω Ω Ω => false) (fun Ω Ω Ω Ω Ω => false) (fun Ω Ω Ω Ω Ω => false) (fun Ω Ω Ω Ω Ω => false) (fun Ω Ω Ω Ω => false) (fun Ω Ω Ω Ω => false) (fun Ω Ω Ω => false) (fun Ω Ω Ω => false) (fun Ω Ω Ω => false) (fun Ω Ω Ω => false) (fun Ω Ω Ω Ω Ω => false) (fun Ω Ω Ω Ω Ω => false) (fun Ω Ω Ω => false) (fun Ω Ω => false) (fun Ω Ω Ω Ω => false) (fun Ω Ω => false) (fun Ω Ω => false) (fun Ω Ω => false) (fun Ω => false) (fun Ω => p) (fun Ω => false)
theorem onBrk_el {P : Stmt → Prop} {e : Stmt} {p : Bool} (h : onBrk e p = true) (k : ∀ a, p = true → P (.Break a)) : P e := @Stmt.casesOn (fun e => onBrk e p = true → P e) e (fun Ω Ω Ω Ω Ω Ω Ω Ω Ω Ω => ff) (fun Ω Ω Ω Ω Ω Ω Ω Ω Ω Ω => ff) (fun Ω Ω Ω Ω Ω Ω Ω Ω Ω Ω Ω => ff) (fun Ω Ω => ff) (fun Ω Ω => ff) (fun Ω Ω Ω => ff) (fun Ω Ω Ω Ω Ω Ω Ω => ff) (fun Ω Ω Ω Ω => ff) (fun Ω Ω Ω Ω Ω => ff) (fun Ω Ω Ω Ω Ω => ff) (fun Ω Ω Ω Ω Ω => ff) (fun Ω Ω Ω Ω => ff) (fun Ω Ω Ω Ω => ff) (fun Ω Ω Ω => ff) (fun Ω Ω Ω => ff) (fun Ω Ω Ω => ff) (fun Ω Ω Ω => ff) (fun Ω Ω Ω Ω Ω => ff) (fun Ω Ω Ω Ω Ω => ff) (fun Ω Ω Ω => ff) (fun Ω Ω => ff) (fun Ω Ω Ω Ω => ff) (fun Ω Ω => ff) (fun Ω Ω => ff) (fun Ω Ω => ff) (fun Ω => ff) (fun a h => k a h) (fun Ω => ff) h
section
variable {α : Type}
noncomputable def on1 (l : List α) (p : α → Bool) : Bool := @List.casesOn α (fun Ω => Bool) l false fun a r => @List.casesOn α (fun Ω => Bool) r (p a) fun Ω Ω => false
theorem on1_el {P : List α → Prop} {l : List α} {p : α → Bool} (h : on1 l p = true) (k : ∀ a, p a = true → P [a]) : P l := by
  cases l with
  | nil => exact ff h
  | cons a r => cases r with
    | nil => exact k a h
    | cons _ _ => exact ff h
noncomputable def onC (l : List α) (p : α → List α → Bool) : Bool := @List.casesOn α (fun Ω => Bool) l false fun a r => p a r
theorem onC_el {P : List α → Prop} {l : List α} {p : α → List α → Bool} (h : onC l p = true) (k : ∀ a r, p a r = true → P (a :: r)) : P l := by
  cases l with
  | nil => exact ff h
  | cons a r => exact k a r h
noncomputable def on2 (l : List α) (p : α → α → Bool) : Bool := onC l fun a r => on1 r fun b => p a b
theorem on2_el {P : List α → Prop} {l : List α} {p : α → α → Bool} (h : on2 l p = true) (k : ∀ a b, p a b = true → P [a, b]) : P l := onC_el h fun a r h => on1_el (P := fun r => P (a :: r)) h fun b h => k a b h
noncomputable def onS (o : Option α) (p : α → Bool) : Bool := @Option.casesOn α (fun Ω => Bool) o false p
theorem onS_el {P : Option α → Prop} {o : Option α} {p : α → Bool} (h : onS o p = true) (k : ∀ a, p a = true → P (some a)) : P o := by
  cases o with
  | none => exact ff h
  | some a => exact k a h
theorem nil_el {P : List α → Prop} {l : List α} (h : l.isEmpty = true) (k : P []) : P l := by
  cases l with
  | nil => exact k
  | cons _ _ => exact ff h
theorem none_el {P : Option α → Prop} {l : Option α} (h : l.isNone = true) (k : P none) : P l := by
  cases l with
  | none => exact k
  | some _ => exact ff h
end
end
section
set_option tactic.hygienic false
open PySem PySem.W PySem.Calls PyProof.Rows
structure Tabs where
  glob : List (Str × Value)
  cls : List (Nat × Nat)
  icls : List (Nat × Nat)
  meth : List (Nat × Nat × Nat)
  fns : List Nat
  ics : List Nat
  txts : List Value
noncomputable abbrev Names := List (Str × NameKind)
noncomputable def onLC (e : Expr) (p : Expr → Str → Expr → Scope → Pos → Bool) : Bool := onLC0 e fun el gs sc q => on1 gs fun c => c.ifs.isEmpty && c.is_async == 0 && onName c.target fun x => p el x c.iter sc q
theorem onLC_el {P : Expr → Prop} {e p} (h : onLC e p = true) (k : ∀ el x px it sc q, p el x it sc q = true → P (.ListComp el [⟨.Name x px, it, [], 0⟩] sc q)) : P e :=
  onLC0_el h fun el gs sc q h => on1_el (P := fun gs => P (.ListComp el gs sc q)) h fun ⟨ct, ci, cf, ca⟩ h =>
    onName_el (P := fun ct => P (.ListComp el [⟨ct, ci, cf, ca⟩] sc q)) (andR h) fun x px h2 => nil_el (P := fun cf => P (.ListComp el [⟨.Name x px, ci, cf, ca⟩] sc q)) (andL (andL h)) (eqB (P := fun ca => P (.ListComp el [⟨.Name x px, ci, [], ca⟩] sc q)) (andR (andL h)) (k el x px ci sc q h2))
noncomputable def onLCF (e : Expr) (p : Str → Expr → Scope → Bool) : Bool := onLC0 e fun Ω gs sc Ω => on1 gs fun c => c.is_async == 0 && onName c.target fun x => p x c.iter sc
theorem onLCF_el {P : Expr → Prop} {e p} (h : onLCF e p = true) (k : ∀ el x px it ifs sc q, p x it sc = true → P (.ListComp el [⟨.Name x px, it, ifs, 0⟩] sc q)) : P e :=
  onLC0_el h fun el gs sc q h => on1_el (P := fun gs => P (.ListComp el gs sc q)) h fun ⟨ct, ci, cf, ca⟩ h =>
    onName_el (P := fun ct => P (.ListComp el [⟨ct, ci, cf, ca⟩] sc q)) (andR h) fun x px h2 => eqB (P := fun ca => P (.ListComp el [⟨.Name x px, ci, cf, ca⟩] sc q)) (andL h) (k el x px ci cf sc q h2)
noncomputable def cmp1 (e : Expr) (p : Expr → CmpOp → Expr → Bool) : Bool := onCmp e fun l ops rs => on1 ops fun op => on1 rs fun r => p l op r
theorem cmp1_el {P : Expr → Prop} {e p} (h : cmp1 e p = true) (k : ∀ l op r q, p l op r = true → P (.Compare l [op] [r] q)) : P e :=
  onCmp_el h fun l ops rs q h => on1_el (P := fun ops => P (.Compare l ops rs q)) h fun op h => on1_el (P := fun rs => P (.Compare l [op] rs q)) h fun r h => k l op r q h
noncomputable def call0 (e : Expr) (p : Expr → List Expr → Bool) : Bool := onCall e fun f as ks Ω => ks.isEmpty && p f as
theorem call0_el {P : Expr → Prop} {e p} (h : call0 e p = true) (k : ∀ f as q, p f as = true → P (.Call f as [] q)) : P e :=
  onCall_el h fun f as ks q h => nil_el (P := fun ks => P (.Call f as ks q)) (andL h) (k f as q (andR h))
noncomputable def call1 (e : Expr) (p : Expr → Expr → Bool) : Bool := call0 e fun f as => on1 as fun a => p f a
theorem call1_el {P : Expr → Prop} {e p} (h : call1 e p = true) (k : ∀ f a q, p f a = true → P (.Call f [a] [] q)) : P e :=
  call0_el h fun f as q h => on1_el (P := fun as => P (.Call f as [] q)) h fun a h => k f a q h
noncomputable def call2 (e : Expr) (p : Expr → Expr → Expr → Bool) : Bool := call0 e fun f as => on2 as fun a b => p f a b
theorem call2_el {P : Expr → Prop} {e p} (h : call2 e p = true) (k : ∀ f a b q, p f a b = true → P (.Call f [a, b] [] q)) : P e :=
  call0_el h fun f as q h => on2_el (P := fun as => P (.Call f as [] q)) h fun a b h => k f a b q h
noncomputable def callM (e : Expr) (p : Expr → Str → List Expr → Bool) : Bool := onCall e fun f as ks q => ks.isEmpty && onAttr f fun o a ap => ap.endLine == q.line && plainArgs as && decide (as.length < 30) && p o a as
theorem callM_el {P : Expr → Prop} {e p} (h : callM e p = true) (k : ∀ o a apos es pos, (apos.endLine == pos.line) = true → plainArgs es = true → es.length < 30 → p o a es = true → P (.Call (.Attribute o a apos) es [] pos)) : P e :=
  onCall_el h fun f as ks q h => nil_el (P := fun ks => P (.Call f as ks q)) (andL h) (onAttr_el (P := fun f => P (.Call f as [] q)) (andR h) fun o a ap h => k o a ap as q (andL (andL (andL h))) (andR (andL (andL h))) (of_decide_eq_true (andR (andL h))) (andR h))
noncomputable def isNone (e : Expr) : Bool := onConst e fun c => c == .none
theorem isNone_el {P : Expr → Prop} {e} (h : isNone e = true) (k : ∀ n p, P (.Constant .none n p)) : P e := onConst_el h fun c n p h => eqB (P := fun c => P (.Constant c n p)) h (k n p)
noncomputable def isNil (e : Expr) : Bool := onList e fun l => l.isEmpty
theorem isNil_el {P : Expr → Prop} {e} (h : isNil e = true) (k : ∀ p, P (.List [] p)) : P e := onList_el h fun c p h => nil_el (P := fun c => P (.List c p)) h (k p)
noncomputable def isRev (e : Expr) : Bool := onSlice e fun a b c => a.isNone && b.isNone && onS c fun s => onUn s fun o u => o == .USub && onConst u fun c => c == .int 1
theorem isRev_el {P : Expr → Prop} {e} (h : isRev e = true) (k : ∀ n p p' q, P (.Slice none none (some (.UnaryOp .USub (.Constant (.int 1) n p') p)) q)) : P e :=
  onSlice_el h fun a b c q h => none_el (P := fun a => P (.Slice a b c q)) (andL (andL h)) (none_el (P := fun b => P (.Slice none b c q)) (andR (andL h)) (onS_el (P := fun c => P (.Slice none none c q)) (andR h) fun s h =>
    onUn_el (P := fun s => P (.Slice none none (some s) q)) h fun o u p h => eqB (P := fun o => P (.Slice none none (some (.UnaryOp o u p)) q)) (andL h) (onConst_el (P := fun u => P (.Slice none none (some (.UnaryOp .USub u p)) q)) (andR h) fun c n p' h =>
      eqB (P := fun c => P (.Slice none none (some (.UnaryOp .USub (.Constant c n p') p)) q)) h (k n p p' q))))
noncomputable def absent? : X → Bool | .absent => true | _ => false
noncomputable def part (p : Expr → Bool) (x : X) (o : Option Expr) : Bool := @Option.casesOn Expr (fun Ω => Bool) o (absent? x) p
section
variable (g : Gb) (t : Tabs)
noncomputable def gl (sc : Names) (f : Expr) (v : Value) : Bool := onName f fun id => sc.lookup id == some .globalImplicit && t.glob.contains (id, v)
noncomputable def relN (names outer : Names) : Names := names.map fun (n, k) => if (k == NameKind.free && outer.lookup n == some .cell) then (n, .cell) else (n, k)
noncomputable def compOkB (sc : Names) (scope : Scope) (x : Nat) (caps : List Nat) : Bool :=
  scope.names.all (fun y => y.2 != .cell && (y.2 != .local || scope.names.lookup y.1 == some .local) && (y.2 != .free || sc.lookup y.1 == some .cell)) && scope.kind == .function && scope.names.lookup (g.nm x) == some .local && decide (x < g.nN) &&
    caps.all fun y => scope.names.lookup (g.nm y) == some .free && sc.lookup (g.nm y) == some .cell
noncomputable def mU (sc : Names) (o : U1) (m : Expr → Bool) (e : Expr) : Bool := match o with
  | .attr f => onAttr e fun v a Ω => a == g.nm f && decide (f < g.nf) && abOk v && m v
  | .neg => onUn e fun o v => o == .USub && m v
  | .isN => cmp1 e fun l op r => op == .Is && isNone r && m l
  | .isNN => cmp1 e fun l op r => op == .IsNot && isNone r && m l
  | .eqNil => cmp1 e fun l op r => op == .Eq && isNil r && m l
  | .neNil => cmp1 e fun l op r => op == .NotEq && isNil r && m l
  | .not => false
  | .isI C => call2 e fun f x y => gl t sc f (.builtin "isinstance") && gl t sc y (.ref C) && t.ics.contains C && plainArgs [x, y] && m x
  | .len => call1 e fun f x => gl t sc f (.builtin "len") && plainArgs [x] && m x
  | .toL => call1 e fun f x => gl t sc f (.type "list") && plainArgs [x] && m x
  | .sorted => call1 e fun f x => gl t sc f (.builtin "sorted") && plainArgs [x] && m x
  | .rev => onSub e fun v i => isRev i && m v
noncomputable def mB (sc : Names) (o : B2) (m k : Expr → Bool) (e : Expr) : Bool := match o with
  | .idx => onSub e fun v i => m v && k i
  | .didx => onSub e fun v i => m v && k i
  | .min => call2 e fun f x y => gl t sc f (.builtin "min") && plainArgs [x, y] && m x && k y
  | .max => call2 e fun f x y => gl t sc f (.builtin "max") && plainArgs [x, y] && m x && k y
  | .cmp op => cmp1 e fun l q r => q == cmpOf op && plainR r && m l && k r
  | .eqd => cmp1 e fun l q r => q == .Eq && plainR r && m l && k r
  | .ned => cmp1 e fun l q r => q == .NotEq && plainR r && m l && k r
  | .inl => cmp1 e fun l q r => q == .In && plainR r && m l && k r
  | .ar op => onBin e fun l q r => q == binOf op && m l && k r
  | .lcat => onBin e fun l q r => q == .Add && m l && k r
  | .scat => onBin e fun l q r => q == .Add && m l && k r
  | .lmul => onBin e fun l q r => q == .Mult && m l && k r
  | .smul => onBin e fun l q r => q == .Mult && m l && k r
mutual
noncomputable def mX (sc : Names) : X → Expr → Bool
  | .none, e => isNone e
  | .bool b, e => onConst e fun c => c == .bool b
  | .int i, e => onConst e fun c => c == .int i
  | .str s, e => onConst e fun c => c == .str s
  | .loc x, e => onName e fun id => id == g.nm x && decide (x < g.nN)
  | .u o a, e => mU g t sc o (fun e => mX sc a e) e
  | .b o a b, e => mB t sc o (fun e => mX sc a e) (fun e => mX sc b e) e
  | .chain o₁ o₂ a b c, e => onCmp e fun l ops rs => on2 ops fun p q => on2 rs fun x y => p == cmpOf o₁ && q == cmpOf o₂ && plainR y && mX sc a l && mX sc b x && mX sc c y
  | .and2 a b, e => onBool e fun o as => o == .And && on2 as fun x y => mX sc a x && mX sc b y
  | .ite c a b, e => onIf e fun x y z => mT sc c x && mX sc a y && mX sc b z
  | .call f es, e => call0 e fun h as => gl t sc h (.ref (g.fa f)) && t.fns.contains f && plainArgs as && mXS sc es as
  | .cls C f es, e => call0 e fun h as => gl t sc h (.ref C) && t.cls.contains (C, f) && plainArgs as && mXS sc es as
  | .icall C f es, e => callM e fun o a as => gl t sc o (.ref C) && a == "__init__" && t.icls.contains (C, f) && mXS sc es as
  | .mcall x C f m es, e => callM e fun o a as => a == g.nm m && decide (m < g.nN) && t.meth.contains (C, f, m) && abOk o && mX sc x o && mXS sc es as
  | .pop x, e => callM e fun o a as => a == "pop" && as.isEmpty && abOk o && mX sc x o
  | .m1 .dpop x y, e => callM e fun o a as => a == m1Name .dpop && abOk o && mX sc x o && on2 as fun r n => isNone n && mX sc y r
  | .m1 k x y, e => callM e fun o a as => a == m1Name k && abOk o && mX sc x o && on1 as fun r => mX sc y r
  | .list es, e => onList e fun as => plainArgs as && mXS sc es as
  | .tup es, e => onTup e fun as => plainArgs as && mXS sc es as
  | .dict0, e => onDict e fun ks vs => ks.isEmpty && vs.isEmpty
  | .slice x lo hi, e => onSub e fun v i => onSlice i fun a b c => c.isNone && mX sc x v && part (fun e => mX sc lo e) lo a && part (fun e => mX sc hi e) hi b
  | .comp elt x caps src, e => onLC e fun el id it scope Ω => id == g.nm x && compOkB g sc scope x caps && plainR it && mX (relN scope.names sc) elt el && mX sc src it
  | .compR elt x caps y, e => onLC e fun el id it scope Ω => id == g.nm x && compOkB g sc scope x caps && call1 it fun f b => gl t sc f (.type "range") && plainArgs [b] && mX (relN scope.names sc) elt el && mX sc y b
  | .compE src, e => onLCF e fun id it scope => plainR it && mX sc src it && (List.range g.nN).any fun x => id == g.nm x && compOkB g sc scope x []
  | .absent, _ => false
  | .bad, _ => true
noncomputable def mXS (sc : Names) : XS → List Expr → Bool
  | .nil, es => es.isEmpty
  | .cons x r, es => onC es fun e es => mX sc x e && mXS sc r es
noncomputable def mT (sc : Names) : T → Expr → Bool
  | .e x, e => mX sc x e && (isVal e || onCmp e fun Ω ops rs => on1 ops (fun Ω => on1 rs plainR))
  | .tch o₁ o₂ a b c, e => onCmp e fun l ops rs => on2 ops fun p q => on2 rs fun x y => p == cmpOf o₁ && q == cmpOf o₂ && plainR y && mX sc a l && mX sc b x && mX sc c y
  | .not a, e => onUn e fun o v => o == .Not && mT sc a v
  | .ands ts, e => onBool e fun o as => o == .And && mTS sc ts as
  | .ors ts, e => onBool e fun o as => o == .Or && mTS sc ts as
noncomputable def mTS (sc : Names) : TS → List Expr → Bool
  | .nil, es => es.isEmpty
  | .cons x r, es => onC es fun e es => mT sc x e && mTS sc r es
end
end
end
section
set_option tactic.hygienic false
open PySem PySem.W PySem.Calls PyProof.Rows
structure GlobF (g : Gb) (p : Str × Value) : Prop where
  nd : (p.1 == ("__debug__" : Str)) = false
  at_ : nsIn g.K mainGlobals p.1 = some (some p.2) ∨ (nsIn g.K mainGlobals p.1 = some none ∧ bootBuiltins p.1 = some p.2 ∧ p.1 ≠ "__name__")
structure ClsF (g : Gb) (p : Nat × Nat) : Prop where
  cs : p.1 ∈ g.cs
  keep : keepIn g.K (.ref p.1) = true
  makes : makesIn g.K p.1 = true
  find : findIn g.K (.ref p.1) "__init__" = some (some (.ref (g.fa p.2)))
  type : typeIn g.K (.ref (g.fa p.2)) = some (.type "function")
structure IclsF (g : Gb) (p : Nat × Nat) : Prop where
  sp : specialIn g.K (.ref p.1) "__getattribute__" = some (some (.builtin "type.__getattribute__"))
  type : typeIn g.K (.ref p.1) = some (.type "type")
  reads : readsIn g.K p.1 (.type "type") = true
  find : findCls g.K (.ref p.1) (.type "type") "__init__" = some (.val (.ref (g.fa p.2)))
  keep : keepIn g.K (.ref (g.fa p.2)) = true
structure MethF (g : Gb) (p : Nat × Nat × Nat) : Prop where
  find : findIn g.K (.ref p.1) (g.nm p.2.2) = some (some (.ref (g.fa p.2.1)))
  fn : isFn g.K (.ref (g.fa p.2.1)) = true
  keep : keepIn g.K (.ref (g.fa p.2.1)) = true
structure TabOk (g : Gb) (t : Tabs) : Prop where
  glob : ∀ p ∈ t.glob, GlobF g p
  die : exmOne g.K (.ref g.die) (.ref g.die) = some true
  dieF : DieF g
  fns : ∀ f ∈ t.fns, keepIn g.K (.ref (g.fa f)) = true
  cls : ∀ p ∈ t.cls, ClsF g p
  icls : ∀ p ∈ t.icls, IclsF g p
  meth : ∀ p ∈ t.meth, MethF g p
  ics : ∀ C ∈ t.ics, C ∈ g.ics
  nd : ∀ x, x < g.nN → (g.nm x == ("__debug__" : Str)) = false
  nc : ∀ x, x < g.nN → (g.nm x == ("__classdict__" : Str)) = false
structure ScOk (env : Env) (sc : Names) : Prop where
  names : env.scope.names = sc
  cells : ∀ x, (x, NameKind.cell) ∈ sc → (env.cells.lookup x).isSome = true
structure Fm (g : Gb) (n : Nat) (sc : Names) (env : Env) (A : Around) (c : Cx) : Prop where
  S : ScOk env sc
  O : AOk g A c n
  T : Top A env
  E : EnvOk c env
section
variable {g : Gb} {t : Tabs} {Φ : SemF} {n : Nat}
theorem Fm.rm {sc env A c} (F : Fm g n sc env A c) : Rm A 0 := ⟨by have := F.O.rm.dp; lia, by have := F.O.rm.un; lia⟩
theorem ScOk.kind {env : Env} {sc : Names} (S : ScOk env sc) {x : Str} {k : Option NameKind} (h : (sc.lookup x == k) = true) : env.kindOf x = k := by unfold Env.kindOf; rw [S.names]; exact beq_iff_eq.mp h
theorem gl_el (TO : TabOk g t) {env : Env} {sc : Names} (S : ScOk env sc) {P : Expr → Prop} {e : Expr} {v : Value} (h : gl t sc e v = true) (k : ∀ id p, GlobN g env id v → P (.Name id p)) : P e :=
  onName_el h fun id p h => k id p <| by
    have G := TO.glob _ (List.contains_iff_mem.mp (andR h))
    rcases G.at_ with k2 | ⟨k2, k3, k4⟩
    · exact .glob (S.kind (andL h)) k2 G.nd
    · exact .bltn (S.kind (andL h)) k2 k3 k4 G.nd
theorem mem_of {α : Type} [BEq α] [LawfulBEq α] {l : List α} {a : α} (h : l.contains a = true) : a ∈ l := List.contains_iff_mem.mp h
theorem compOk_of {env : Env} {sc : Names} (SO : ScOk env sc) {scope : Scope} {x : Nat} {caps : List Nat} (h : compOkB g sc scope x caps = true) : CompOk g env scope x caps := by
  unfold compOkB at h
  have h1 := List.all_eq_true.mp (andL (andL (andL (andL h))))
  have h5 := List.all_eq_true.mp (andR h)
  exact ⟨fun y hy => bne_iff_ne.mp (andL (andL (h1 y hy))), beq_iff_eq.mp (andR (andL (andL (andL h)))), fun y hy e => (Bool.or_eq_true_iff.mp (andR (andL (h1 y hy)))).elim (fun q => absurd e (bne_iff_ne.mp q)) beq_iff_eq.mp,
    beq_iff_eq.mp (andR (andL (andL h))), of_decide_eq_true (andR (andL h)), fun y hy => ⟨beq_iff_eq.mp (andL (h5 y hy)), SO.kind (andR (h5 y hy))⟩,
    fun y hy e => (Bool.or_eq_true_iff.mp (andR (h1 y hy))).elim (fun q => absurd e (bne_iff_ne.mp q)) fun q => SO.cells _ (mem_of_lookup (beq_iff_eq.mp q))⟩
theorem comp_sc {env : Env} {sc : Names} (SO : ScOk env sc) (hk : env.scope.kind = .function) {scope : Scope} (hc : ∀ y ∈ scope.names, y.2 ≠ .cell) (C : Addr) : ScOk (compEnvC scope (clOf env scope.names) C env) (relN scope.names sc) := by
  refine ⟨?_, fun x hx => ?_⟩
  · show (scope.names.map _) = scope.names.map _
    refine List.map_congr_left fun p Ω => ?_
    rcases p with ⟨a, k⟩
    have : env.kindOf a = sc.lookup a := by unfold Env.kindOf; rw [SO.names]
    show (if (k == NameKind.free && env.scope.kind == .function && env.kindOf a == some .cell) = true then _ else _) = _
    rw [hk, this]
    simp
  · obtain ⟨p, hp, e⟩ := List.mem_map.mp hx
    obtain ⟨a, k⟩ := p
    dsimp only at e
    split at e
    · rename_i q
      cases e
      simp only [Bool.and_eq_true, beq_iff_eq] at q
      obtain ⟨q1, q2⟩ := q
      subst q1
      obtain ⟨b, hb⟩ := Option.isSome_iff_exists.mp (SO.cells x (mem_of_lookup q2))
      show ((clOf env scope.names).lookup x).isSome = true
      rw [clOf_lookup hp hb]; rfl
    · cases e
      exact absurd rfl (hc _ hp)
variable (g t Φ n)
noncomputable def GX (x : X) : Prop := ∀ e sc env A c, Fm g n sc env A c → mX g t sc x e = true → OkE g Φ A c env x e
noncomputable def GXS (x : XS) : Prop := ∀ e sc env A c, Fm g n sc env A c → mXS g t sc x e = true → OkEs g Φ A c env x e
noncomputable def GT (x : T) : Prop := ∀ e sc env A c, Fm g n sc env A c → mT g t sc x e = true → OkT g Φ A c env x e
noncomputable def GTS (x : TS) : Prop := ∀ e sc env A c, Fm g n sc env A c → mTS g t sc x e = true → OkAnd g Φ A c env x e ∧ OkOr g Φ A c env x e
variable {g t Φ n}
section
variable {a b d : X} {es : XS} (ia : GX g t Φ n a) (ib : GX g t Φ n b) (id' : GX g t Φ n d) (ie : GXS g t Φ n es)
theorem g_none : GX g t Φ n .none := fun e sc env A c F h => isNone_el h fun k p => okE_none
theorem g_bool {x} : GX g t Φ n (.bool x) := fun e sc env A c F h => onConst_el h fun v k p h => eqB (P := fun v => OkE g Φ A c env _ (.Constant v k p)) h okE_bool
theorem g_int {x} : GX g t Φ n (.int x) := fun e sc env A c F h => onConst_el h fun v k p h => eqB (P := fun v => OkE g Φ A c env _ (.Constant v k p)) h okE_int
theorem g_str {x} : GX g t Φ n (.str x) := fun e sc env A c F h => onConst_el h fun v k p h => eqB (P := fun v => OkE g Φ A c env _ (.Constant v k p)) h okE_str
theorem g_loc (TO : TabOk g t) {x} : GX g t Φ n (.loc x) := fun e sc env A c F h => onName_el h fun v p h => eqB (P := fun v => OkE g Φ A c env _ (.Name v p)) (andL h) (okE_loc F.E (TO.nd x (of_decide_eq_true (andR h))) (TO.nc x (of_decide_eq_true (andR h))))
include ia
theorem g_attr {f} : GX g t Φ n (.u (.attr f) a) := fun e sc env A c F h => onAttr_el h fun v s p h => eqB (P := fun s => OkE g Φ A c env _ (.Attribute v s p)) (andL (andL (andL h))) (okE_attr F.O.st (ia _ _ _ _ _ F (andR h)) (of_decide_eq_true (andR (andL (andL h)))) (andR (andL h)))
theorem g_neg : GX g t Φ n (.u .neg a) := fun e sc env A c F h => onUn_el h fun o v p h => eqB (P := fun o => OkE g Φ A c env _ (.UnaryOp o v p)) (andL h) (okE_neg (ia _ _ _ _ _ F (andR h)))
theorem g_isN : GX g t Φ n (.u .isN a) := fun e sc env A c F h => cmp1_el h fun l o r q h => eqB (P := fun o => OkE g Φ A c env _ (.Compare l [o] [r] q)) (andL (andL h)) (isNone_el (P := fun r => OkE g Φ A c env _ (.Compare l [_] [r] q)) (andR (andL h)) fun k p => okE_isN (ia _ _ _ _ _ F (andR h)))
theorem g_isNN : GX g t Φ n (.u .isNN a) := fun e sc env A c F h => cmp1_el h fun l o r q h => eqB (P := fun o => OkE g Φ A c env _ (.Compare l [o] [r] q)) (andL (andL h)) (isNone_el (P := fun r => OkE g Φ A c env _ (.Compare l [_] [r] q)) (andR (andL h)) fun k p => okE_isNN (ia _ _ _ _ _ F (andR h)))
theorem g_eqNil : GX g t Φ n (.u .eqNil a) := fun e sc env A c F h => cmp1_el h fun l o r q h => eqB (P := fun o => OkE g Φ A c env _ (.Compare l [o] [r] q)) (andL (andL h)) (isNil_el (P := fun r => OkE g Φ A c env _ (.Compare l [_] [r] q)) (andR (andL h)) fun p => okE_eqNil F.rm (ia _ _ _ _ _ F (andR h)))
theorem g_neNil : GX g t Φ n (.u .neNil a) := fun e sc env A c F h => cmp1_el h fun l o r q h => eqB (P := fun o => OkE g Φ A c env _ (.Compare l [o] [r] q)) (andL (andL h)) (isNil_el (P := fun r => OkE g Φ A c env _ (.Compare l [_] [r] q)) (andR (andL h)) fun p => okE_neNil F.rm (ia _ _ _ _ _ F (andR h)))
theorem g_isI (TO : TabOk g t) {C} : GX g t Φ n (.u (.isI C) a) := fun e sc env A c F h => call2_el h fun f x y q h => gl_el TO F.S (P := fun f => OkE g Φ A c env _ (.Call f [x, y] [] q)) (andL (andL (andL (andL h)))) fun id p G =>
  have h4 := andR (andL h)
  have h5 := andR h
  gl_el TO F.S (P := fun y => plainArgs [x, y] = true → OkE g Φ A c env _ (.Call (.Name id p) [x, y] [] q)) (andR (andL (andL (andL h)))) (fun id' p' G' h4 => okE_isI F.O.st F.E G G' (TO.ics _ (mem_of (andR (andL (andL h))))) h4 (ia _ _ _ _ _ F h5)) h4
theorem g_len (TO : TabOk g t) : GX g t Φ n (.u .len a) := fun e sc env A c F h => call1_el h fun f x q h => gl_el TO F.S (P := fun f => OkE g Φ A c env _ (.Call f [x] [] q)) (andL (andL h)) fun id p G => okE_len F.O.st F.E G (andR (andL h)) (ia _ _ _ _ _ F (andR h))
theorem g_toL (TO : TabOk g t) : GX g t Φ n (.u .toL a) := fun e sc env A c F h => call1_el h fun f x q h => gl_el TO F.S (P := fun f => OkE g Φ A c env _ (.Call f [x] [] q)) (andL (andL h)) fun id p G => okE_toL F.O.st F.E G (andR (andL h)) (ia _ _ _ _ _ F (andR h))
theorem g_sorted (TO : TabOk g t) : GX g t Φ n (.u .sorted a) := fun e sc env A c F h => call1_el h fun f x q h => gl_el TO F.S (P := fun f => OkE g Φ A c env _ (.Call f [x] [] q)) (andL (andL h)) fun id p G => okE_sorted F.O.st F.O.hA F.E G (andR (andL h)) (ia _ _ _ _ _ F (andR h))
theorem g_rev : GX g t Φ n (.u .rev a) := fun e sc env A c F h => onSub_el h fun v i q h => isRev_el (P := fun i => OkE g Φ A c env _ (.Subscript v i q)) (andL h) fun k p p' q' => okE_rev (ia _ _ _ _ _ F (andR h))
theorem g_u (TO : TabOk g t) (o) : GX g t Φ n (.u o a) := match o with
  | .attr f => g_attr ia
  | .neg => g_neg ia
  | .isN => g_isN ia
  | .isNN => g_isNN ia
  | .eqNil => g_eqNil ia
  | .neNil => g_neNil ia
  | .not => fun e sc env A c F h => ff h
  | .isI C => g_isI ia TO
  | .len => g_len ia TO
  | .toL => g_toL ia TO
  | .sorted => g_sorted ia TO
  | .rev => g_rev ia
include ib
theorem b_cmp {o : B2} {op : CmpOp} (ho : cmpId o = some op) {e sc env A c} (F : Fm g n sc env A c) (h : (cmp1 e fun l q r => q == op && plainR r && mX g t sc a l && mX g t sc b r) = true) : OkE g Φ A c env (.b o a b) e :=
  cmp1_el h fun l q r p h => eqB (P := fun q => OkE g Φ A c env _ (.Compare l [q] [r] p)) (andL (andL (andL h))) (okE_cmp F.rm (ia _ _ _ _ _ F (andR (andL h))) (ib _ _ _ _ _ F (andR h)) ho (andR (andL (andL h))))
theorem b_bin {o : B2} {op : Operator} (ho : binId o = some op) {e sc env A c} (F : Fm g n sc env A c) (h : (onBin e fun l q r => q == op && mX g t sc a l && mX g t sc b r) = true) : OkE g Φ A c env (.b o a b) e :=
  onBin_el h fun l q r p h => eqB (P := fun q => OkE g Φ A c env _ (.BinOp l q r p)) (andL (andL h)) (okE_bin (ia _ _ _ _ _ F (andR (andL h))) (ib _ _ _ _ _ F (andR h)) ho)
theorem b_mm (TO : TabOk g t) {o : B2} {w : String} {e sc env A c} (F : Fm g n sc env A c) (h : (call2 e fun f x y => gl t sc f (.builtin w) && plainArgs [x, y] && mX g t sc a x && mX g t sc b y) = true)
    (k : ∀ id p x y q, GlobN g env id (.builtin w) → plainArgs [x, y] = true → OkE g Φ A c env a x → OkE g Φ A c env b y → OkE g Φ A c env (.b o a b) (.Call (.Name id p) [x, y] [] q)) : OkE g Φ A c env (.b o a b) e :=
  call2_el h fun f x y q h => gl_el TO F.S (P := fun f => OkE g Φ A c env _ (.Call f [x, y] [] q)) (andL (andL (andL h))) fun id p G => k id p x y q G (andR (andL (andL h))) (ia _ _ _ _ _ F (andR (andL h))) (ib _ _ _ _ _ F (andR h))
theorem g_b (TO : TabOk g t) (o) : GX g t Φ n (.b o a b) := fun e sc env A c F => match o with
  | .idx => fun h => onSub_el h fun v i q h => okE_idx (ia _ _ _ _ _ F (andL h)) (ib _ _ _ _ _ F (andR h))
  | .didx => fun h => onSub_el h fun v i q h => okE_didx (ia _ _ _ _ _ F (andL h)) (ib _ _ _ _ _ F (andR h))
  | .min => fun h => b_mm ia ib TO F h fun id p x y q G hp h1 h2 => okE_min F.O.st F.O.hA F.E G hp h1 h2
  | .max => fun h => b_mm ia ib TO F h fun id p x y q G hp h1 h2 => okE_max F.O.st F.O.hA F.E G hp h1 h2
  | .cmp op => b_cmp ia ib rfl F
  | .eqd => b_cmp ia ib rfl F
  | .ned => b_cmp ia ib rfl F
  | .inl => b_cmp ia ib rfl F
  | .ar op => b_bin ia ib rfl F
  | .lcat => b_bin ia ib rfl F
  | .scat => b_bin ia ib rfl F
  | .lmul => b_bin ia ib rfl F
  | .smul => b_bin ia ib rfl F
theorem g_and2 : GX g t Φ n (.and2 a b) := fun e sc env A c F h => onBool_el h fun o as p h => eqB (P := fun o => OkE g Φ A c env _ (.BoolOp o as p)) (andL h) (on2_el (P := fun as => OkE g Φ A c env _ (.BoolOp _ as p)) (andR h) fun x y h => okE_and2 (ia _ _ _ _ _ F (andL h)) (ib _ _ _ _ _ F (andR h)))
include id'
theorem g_chain {o₁ o₂} : GX g t Φ n (.chain o₁ o₂ a b d) := fun e sc env A c F h => onCmp_el h fun l ops rs p h => on2_el (P := fun ops => OkE g Φ A c env _ (.Compare l ops rs p)) h fun o o' h => on2_el (P := fun rs => OkE g Φ A c env _ (.Compare l [o, o'] rs p)) h fun x y h =>
  eqB (P := fun o => OkE g Φ A c env _ (.Compare l [o, o'] [x, y] p)) (andL (andL (andL (andL (andL h))))) (eqB (P := fun o' => OkE g Φ A c env _ (.Compare l [_, o'] [x, y] p)) (andR (andL (andL (andL (andL h))))) (chain3 (ia _ _ _ _ _ F (andR (andL (andL h)))) (ib _ _ _ _ _ F (andR (andL h))) (id' _ _ _ _ _ F (andR h)) (andR (andL (andL (andL h))))))
omit id' in
theorem g_ite {tt} (it : GT g t Φ n tt) : GX g t Φ n (.ite tt a b) := fun e sc env A c F h => onIf_el h fun x y z p h => okE_ite (it _ _ _ _ _ F (andL (andL h))) (ia _ _ _ _ _ F (andR (andL h))) (ib _ _ _ _ _ F (andR h))
omit id' in
theorem g_m1 {k} : GX g t Φ n (.m1 k a b) := fun e sc env A c F => by
  have go : k ≠ .dpop → (callM e fun o s as => s == m1Name k && abOk o && mX g t sc a o && on1 as fun r => mX g t sc b r) = true → OkE g Φ A c env (.m1 k a b) e := fun ne h => callM_el h fun o s ap es pos hl hp hn h =>
    eqB (P := fun s => OkE g Φ A c env _ (.Call (.Attribute o s ap) es [] pos)) (andL (andL (andL h))) (on1_el (P := fun es => plainArgs es = true → OkE g Φ A c env _ (.Call (.Attribute o _ ap) es [] pos)) (andR h) (fun r h2 hp => okE_m1 F.rm ne (ia _ _ _ _ _ F (andR (andL h))) (andR (andL (andL h))) hl hp (ib _ _ _ _ _ F h2)) hp)
  cases k with
  | dpop =>
    exact fun h => callM_el h fun o s ap es pos hl hp hn h =>
      eqB (P := fun s => OkE g Φ A c env _ (.Call (.Attribute o s ap) es [] pos)) (andL (andL (andL h))) (on2_el (P := fun es => plainArgs es = true → OkE g Φ A c env _ (.Call (.Attribute o _ ap) es [] pos)) (andR h) (fun r z h2 hp =>
        isNone_el (P := fun z => plainArgs [r, z] = true → OkE g Φ A c env _ (.Call (.Attribute o _ ap) [r, z] [] pos)) (andL h2) (fun k p hp => okE_dpop F.O.st (ia _ _ _ _ _ F (andR (andL h))) (andR (andL (andL h))) hl hp (ib _ _ _ _ _ F (andR h2))) hp) hp)
  | _ => exact go nofun
omit ib id' in
theorem g_pop : GX g t Φ n (.pop a) := fun e sc env A c F h => callM_el h fun o s ap es pos hl hp hn h =>
  eqB (P := fun s => OkE g Φ A c env _ (.Call (.Attribute o s ap) es [] pos)) (andL (andL (andL h))) (nil_el (P := fun es => OkE g Φ A c env _ (.Call (.Attribute o _ ap) es [] pos)) (andR (andL (andL h))) (okE_pop (ia _ _ _ _ _ F (andR h)) (andR (andL h)) hl))
omit id' ib in
theorem part_ok {sc env A c} (F : Fm g n sc env A c) {o : Option Expr} (h : part (fun e => mX g t sc a e) a o = true) : OkP g Φ A c env a o := by
  cases o with
  | some l => exact okP_some (ia _ _ _ _ _ F h)
  | none => cases a <;> first | exact okP_absent | exact ff h
theorem g_slice : GX g t Φ n (.slice a b d) := fun e sc env A c F h => onSub_el h fun v i q h => onSlice_el (P := fun i => OkE g Φ A c env _ (.Subscript v i q)) h fun x y z p h =>
  none_el (P := fun z => OkE g Φ A c env _ (.Subscript v (.Slice x y z p) q)) (andL (andL (andL h))) (okE_slice (ia _ _ _ _ _ F (andR (andL (andL h)))) (part_ok ib F (andR (andL h))) (part_ok id' F (andR h)))
omit id' in
theorem g_comp {x caps} : GX g t Φ n (.comp a x caps b) := fun e sc env A c F h => onLC_el h fun el y px it scope q h => eqB (P := fun y => OkE g Φ A c env _ (.ListComp el [⟨.Name y px, it, [], 0⟩] scope q)) (andL (andL (andL (andL h))))
  (have CS := compOk_of F.S (andR (andL (andL (andL h))))
  okE_comp F.O F.T F.E CS (fun C c O' E' => ia _ _ _ _ _ ⟨comp_sc F.S F.E.hk CS.cell C, O', F.T, E'⟩ (andR (andL h))) (ib _ _ _ _ _ F (andR h)) (andR (andL (andL h))))
omit id' ib in
theorem g_compE : GX g t Φ n (.compE a) := fun e sc env A c F h => onLCF_el h fun el y px it ifs scope q h =>
  let ⟨x, _, hx⟩ := List.any_eq_true.mp (andR h)
  eqB (P := fun y => OkE g Φ A c env _ (.ListComp el [⟨.Name y px, it, ifs, 0⟩] scope q)) (andL hx) (okE_compE F.O F.T F.E (compOk_of F.S (andR hx)) (ia _ _ _ _ _ F (andR (andL h))) (andL (andL h)))
omit id' in
theorem g_compR (TO : TabOk g t) {x caps} : GX g t Φ n (.compR a x caps b) := fun e sc env A c F h => onLC_el h fun el y px it scope q h => eqB (P := fun y => OkE g Φ A c env _ (.ListComp el [⟨.Name y px, it, [], 0⟩] scope q)) (andL (andL h))
  (have CS := compOk_of F.S (andR (andL h))
  call1_el (P := fun it => OkE g Φ A c env _ (.ListComp el [⟨.Name _ px, it, [], 0⟩] scope q)) (andR h) fun f i q' h => gl_el TO F.S (P := fun f => OkE g Φ A c env _ (.ListComp el [⟨.Name _ px, .Call f [i] [] q', [], 0⟩] scope q)) (andL (andL (andL h))) fun id p G =>
    okE_compR F.O F.T F.E CS (fun C c O' E' => ia _ _ _ _ _ ⟨comp_sc F.S F.E.hk CS.cell C, O', F.T, E'⟩ (andR (andL h))) G (fun c O' E' => ib _ _ _ _ _ ⟨F.S, O', F.T, E'⟩ (andR h)) (andR (andL (andL h))))
end
section
variable {a : X} {es : XS} (ia : GX g t Φ n a) (ie : GXS g t Φ n es)
include ie
theorem g_call (TO : TabOk g t) (H : CallOk g n Φ) {f} : GX g t Φ n (.call f es) := fun e sc env A c F h => call0_el h fun hd as q h => gl_el TO F.S (P := fun hd => OkE g Φ A c env _ (.Call hd as [] q)) (andL (andL (andL h))) fun id p G => okE_call H F.O F.E G (TO.fns _ (mem_of (andR (andL (andL h))))) (andR (andL h)) (ie _ _ _ _ _ F (andR h))
theorem g_cls (TO : TabOk g t) (H : CallOk g n Φ) {C f} : GX g t Φ n (.cls C f es) := fun e sc env A c F h => call0_el h fun hd as q h => gl_el TO F.S (P := fun hd => OkE g Φ A c env _ (.Call hd as [] q)) (andL (andL (andL h))) fun id p G =>
  have K := TO.cls _ (mem_of (andR (andL (andL h))))
  okE_cls H F.O F.E G K.keep (andR (andL h)) K.cs K.makes K.find K.type (ie _ _ _ _ _ F (andR h))
theorem g_icall (TO : TabOk g t) (H : CallOk g n Φ) {C f} : GX g t Φ n (.icall C f es) := fun e sc env A c F h => callM_el h fun o s ap as pos hl hp hn h => gl_el TO F.S (P := fun o => OkE g Φ A c env _ (.Call (.Attribute o s ap) as [] pos)) (andL (andL (andL h))) fun id p G =>
  have K := TO.icls _ (mem_of (andR (andL h)))
  eqB (P := fun s => OkE g Φ A c env _ (.Call (.Attribute _ s ap) as [] pos)) (andR (andL (andL h))) (okE_icall H F.O F.E G hp hl hn K.sp K.type K.reads K.find K.keep (ie _ _ _ _ _ F (andR h)))
theorem g_list : GX g t Φ n (.list es) := fun e sc env A c F h => onList_el h fun as p h => okE_list (ie _ _ _ _ _ F (andR h)) (andL h)
theorem g_tup : GX g t Φ n (.tup es) := fun e sc env A c F h => onTup_el h fun as k p h => okE_tup (ie _ _ _ _ _ F (andR h)) (andL h)
include ia
theorem g_mcall (TO : TabOk g t) (H : CallOk g n Φ) {C f m} : GX g t Φ n (.mcall a C f m es) := fun e sc env A c F h => callM_el h fun o s ap as pos hl hp hn h =>
  have K := TO.meth _ (mem_of (andR (andL (andL (andL h)))))
  eqB (P := fun s => OkE g Φ A c env _ (.Call (.Attribute o s ap) as [] pos)) (andL (andL (andL (andL (andL h))))) (okE_mcall H F.O (ia _ _ _ _ _ F (andR (andL h))) (andR (andL (andL h))) hp hl hn (of_decide_eq_true (andR (andL (andL (andL (andL h)))))) K.find K.fn K.keep (ie _ _ _ _ _ F (andR h)))
theorem g_cons : GXS g t Φ n (.cons a es) := fun e sc env A c F h => onC_el h fun x r h => okEs_cons (ia _ _ _ _ _ F (andL h)) (ie _ _ _ _ _ F (andR h))
end
theorem g_dict0 : GX g t Φ n .dict0 := fun e sc env A c F h => onDict_el h fun ks vs p h => nil_el (P := fun ks => OkE g Φ A c env _ (.Dict ks vs p)) (andL h) (nil_el (P := fun vs => OkE g Φ A c env _ (.Dict [] vs p)) (andR h) (okE_dict0 F.O.st))
theorem g_nil : GXS g t Φ n .nil := fun e sc env A c F h => nil_el h okEs_nil
theorem g_e {a : X} (ia : GX g t Φ n a) : GT g t Φ n (.e a) := fun e sc env A c F h =>
  have hx := ia _ _ _ _ _ F (andL h)
  (Bool.or_eq_true_iff.mp (andR h)).elim (okT_val hx) fun h => onCmp_el (P := fun e => OkE g Φ A c env a e → OkT g Φ A c env _ e) h (fun l ops rs p h hx =>
    on1_el (P := fun ops => OkE g Φ A c env a (.Compare l ops rs p) → OkT g Φ A c env _ (.Compare l ops rs p)) h (fun o h => on1_el (P := fun rs => OkE g Φ A c env a (.Compare l [o] rs p) → OkT g Φ A c env _ (.Compare l [o] rs p)) h fun r h hx => okT_cmp hx h) hx) hx
theorem g_tch {o₁ o₂} {a b d : X} (ia : GX g t Φ n a) (ib : GX g t Φ n b) (id' : GX g t Φ n d) : GT g t Φ n (.tch o₁ o₂ a b d) := fun e sc env A c F h => onCmp_el h fun l ops rs p h => on2_el (P := fun ops => OkT g Φ A c env _ (.Compare l ops rs p)) h fun o o' h => on2_el (P := fun rs => OkT g Φ A c env _ (.Compare l [o, o'] rs p)) h fun x y h =>
  eqB (P := fun o => OkT g Φ A c env _ (.Compare l [o, o'] [x, y] p)) (andL (andL (andL (andL (andL h))))) (eqB (P := fun o' => OkT g Φ A c env _ (.Compare l [_, o'] [x, y] p)) (andR (andL (andL (andL (andL h))))) (okT_tch (ia _ _ _ _ _ F (andR (andL (andL h)))) (ib _ _ _ _ _ F (andR (andL h))) (id' _ _ _ _ _ F (andR h)) (andR (andL (andL (andL h))))))
theorem g_not {a : T} (ia : GT g t Φ n a) : GT g t Φ n (.not a) := fun e sc env A c F h => onUn_el h fun o v p h => eqB (P := fun o => OkT g Φ A c env _ (.UnaryOp o v p)) (andL h) (okT_not (ia _ _ _ _ _ F (andR h)))
theorem g_ands {a : TS} (ia : GTS g t Φ n a) : GT g t Φ n (.ands a) := fun e sc env A c F h => onBool_el h fun o as p h => eqB (P := fun o => OkT g Φ A c env _ (.BoolOp o as p)) (andL h) (okT_ands (ia _ _ _ _ _ F (andR h)).1)
theorem g_ors {a : TS} (ia : GTS g t Φ n a) : GT g t Φ n (.ors a) := fun e sc env A c F h => onBool_el h fun o as p h => eqB (P := fun o => OkT g Φ A c env _ (.BoolOp o as p)) (andL h) (okT_ors (ia _ _ _ _ _ F (andR h)).2)
theorem g_tnil : GTS g t Φ n .nil := fun e sc env A c F h => nil_el (P := fun e => OkAnd g Φ A c env .nil e ∧ OkOr g Φ A c env .nil e) h ⟨okAnd_nil, okOr_nil⟩
theorem g_tcons {a : T} {r : TS} (ia : GT g t Φ n a) (ir : GTS g t Φ n r) : GTS g t Φ n (.cons a r) := fun e sc env A c F h => onC_el (P := fun e => OkAnd g Φ A c env _ e ∧ OkOr g Φ A c env _ e) h fun x es h =>
  have p := ia _ _ _ _ _ F (andL h)
  have q := ir _ _ _ _ _ F (andR h)
  ⟨okAnd_cons p q.1, okOr_cons p q.2⟩
theorem g_bad : GX g t Φ n .bad := fun e sc env A c F h ρ hρ Q E σ s I hh => hh.elim
variable (TO : TabOk g t) (H : CallOk g n Φ)
include TO H
theorem gX (x : X) : GX g t Φ n x :=
  @X.rec (GX g t Φ n) (GXS g t Φ n) (GT g t Φ n) (GTS g t Φ n) g_none (fun Ω => g_bool) (fun Ω => g_int) (fun Ω => g_str) (fun Ω => g_loc TO) (fun o a i => g_u i TO o) (fun o a b i j => g_b i j TO o) (fun Ω Ω a b c i j k => g_chain i j k) (fun a b i j => g_and2 i j) (fun c a b it i j => g_ite i j it)
    (fun f es i => g_call i TO H) (fun C f es i => g_cls i TO H) (fun C f es i => g_icall i TO H) (fun e C f m es i j => g_mcall i j TO H) (fun e i => g_pop i) (fun o a b i j => g_m1 i j) (fun es i => g_list i) (fun es i => g_tup i) g_dict0 (fun a b c i j k => g_slice i j k) (fun e x cs s i j => g_comp i j) (fun e x cs s i j => g_compR i j TO)
    (fun s i => g_compE i) (fun e sc env A c F h => ff h) g_bad g_nil (fun a r i j => g_cons i j) (fun a i => g_e i) (fun Ω Ω a b c i j k => g_tch i j k) (fun a i => g_not i) (fun a i => g_ands i) (fun a i => g_ors i) g_tnil (fun a r i j => g_tcons i j) x
theorem gXS : ∀ x : XS, GXS g t Φ n x
  | .nil => g_nil
  | .cons a r => g_cons (gX TO H a) (gXS r)
theorem gT (x : T) : GT g t Φ n x :=
  @T.rec (fun Ω => True) (fun Ω => True) (GT g t Φ n) (GTS g t Φ n) trivial (fun Ω => trivial) (fun Ω => trivial) (fun Ω => trivial) (fun Ω => trivial) (fun Ω Ω Ω => trivial) (fun Ω Ω Ω Ω Ω => trivial) (fun Ω Ω Ω Ω Ω Ω Ω Ω => trivial) (fun Ω Ω Ω Ω => trivial) (fun Ω Ω Ω Ω Ω Ω => trivial)
    (fun Ω Ω Ω => trivial) (fun Ω Ω Ω Ω => trivial) (fun Ω Ω Ω Ω => trivial) (fun Ω Ω Ω Ω Ω Ω Ω => trivial) (fun Ω Ω => trivial) (fun Ω Ω Ω Ω Ω => trivial) (fun Ω Ω => trivial) (fun Ω Ω => trivial) trivial (fun Ω Ω Ω Ω Ω Ω => trivial) (fun Ω Ω Ω Ω Ω Ω => trivial) (fun Ω Ω Ω Ω Ω Ω => trivial)
    (fun Ω Ω => trivial) trivial trivial trivial (fun Ω Ω Ω Ω => trivial) (fun a Ω => g_e (gX TO H a)) (fun Ω Ω a b c Ω Ω Ω => g_tch (gX TO H a) (gX TO H b) (gX TO H c)) (fun a i => g_not i) (fun a i => g_ands i) (fun a i => g_ors i) g_tnil (fun a r i j => g_tcons i j) x
end
end
section
set_option tactic.hygienic false
open PySem PySem.W PySem.Calls PyProof.Rows
structure FmS (g : Gb) (sc : Names) (env : Env) (A : Around) : Prop where
  S : ScOk env sc
  T : Top A env
  k : env.scope.kind = .function
section
variable (g : Gb) (t : Tabs)
noncomputable def hereB (sc : Names) (x : Nat) : Bool := decide (x < g.nN) && (sc.lookup (g.nm x) == some .local || sc.lookup (g.nm x) == some .cell)
noncomputable def lcB (sc : Names) (x : Nat) (ln : Nat) (y : Nat) (caps : List Nat) (e : Expr) (elt : X) (src : Expr → Bool) : Bool :=
  onLC e fun el id it scope pos => id == g.nm y && compOkB g sc scope y caps && plainR it && mX g t (relN scope.names sc) elt el && src it && sc.lookup (g.nm x) == some .local && ln == pos.line && !(scope.names.any fun (n, k) => n == g.nm x && (k == .local || k == .cell))
noncomputable def lcX (sc : Names) (x : Nat) (ln : Nat) (v : Expr) : X → Bool
  | .comp elt y caps src => lcB g t sc x ln y caps v elt fun it => mX g t sc src it
  | .compR elt y caps b => lcB g t sc x ln y caps v elt fun it => call1 it fun f a => gl t sc f (.type "range") && plainArgs [a] && mX g t sc b a
  | _ => false
noncomputable def assB (sc : Names) (x : Nat) (e : X) (o v : Expr) : Bool := onNameP o fun id p => id == g.nm x &&
  (hereB g sc x && (noComp v || sc.lookup (g.nm x) == some .cell) && mX g t sc e v || decide (x < g.nN) && lcX g t sc x p.line v e)
noncomputable def rngB (sc : Names) (lo hi : X) (as : List Expr) : Bool := (match lo with | .int 0 => on1 as fun a => mX g t sc hi a | _ => false) || on2 as fun a b => mX g t sc lo a && mX g t sc hi b
noncomputable def nmL (sc : Names) (x : Nat) (o : Expr) : Bool := onName o fun id => id == g.nm x && decide (x < g.nN) && sc.lookup (g.nm x) == some .local
noncomputable def onHand (e : ExceptHandler) (p : Option Expr → Option Str → List Stmt → Bool) : Bool := match e with | .ExceptHandler a b c _ => p a b c
theorem onHand_el {P : ExceptHandler → Prop} {e p} (h : onHand e p = true) (k : ∀ a b c q, p a b c = true → P (.ExceptHandler a b c q)) : P e := match e, h with | .ExceptHandler a b c q, h => k a b c q h
noncomputable def on3 {α : Type} (l : List α) (p : α → α → α → Bool) : Bool := onC l fun a r => on2 r fun b c => p a b c
theorem on3_el {α : Type} {P : List α → Prop} {l : List α} {p} (h : on3 l p = true) (k : ∀ a b c, p a b c = true → P [a, b, c]) : P l := onC_el h fun a r h => on2_el (P := fun r => P (a :: r)) h fun b c h => k a b c h
noncomputable def asgn (s : Stmt) (p : Expr → Expr → Bool) : Bool := onAssign s fun os v Ω => on1 os fun o => p o v
theorem asgn_el {P : Stmt → Prop} {s p} (h : asgn s p = true) (k : ∀ o v q, p o v = true → P (.Assign [o] v q)) : P s := onAssign_el h fun os v q h => on1_el (P := fun os => P (.Assign os v q)) h fun o h => k o v q h
noncomputable def quietB : X → Bool
  | .none => true
  | .int _ => true
  | .loc _ => true
  | .u .isN a => quietB a
  | .u .len a => quietB a
  | .b (.ar _) a b => quietB a && quietB b
  | .b (.cmp _) a b => quietB a && quietB b
  | .b .inl a b => quietB a && quietB b
  | _ => false
noncomputable def addSub : AOp → Bool | .add => true | .sub => true | _ => false
noncomputable def retQ (sc : Names) (z : Expr) : SS → Bool
  | .cons (.ret y) .nil => quietB y && mX g t sc y z
  | _ => false
mutual
noncomputable def mS (sc : Names) : S → Stmt → Bool
  | .assign x e, s => asgn s fun o v => assB g t sc x e o v
  | .setA e f v, s => asgn s fun o w => onAttr o fun b a Ω => a == g.nm f && decide (f < g.nf) && mX g t sc e b && mX g t sc v w
  | .setI e i v, s => asgn s fun o w => onSub o fun b a => mX g t sc e b && mX g t sc i a && mX g t sc v w
  | .setD e i v, s => asgn s fun o w => onSub o fun b a => mX g t sc e b && mX g t sc i a && mX g t sc v w
  | .setS e lo hi v, s => asgn s fun o w => onSub o fun b i => onSlice i fun x y z => z.isNone && mX g t sc e b && part (fun e => mX g t sc lo e) lo x && part (fun e => mX g t sc hi e) hi y && mX g t sc v w
  | .unp x y z es, s => asgn s fun o w => onTup o fun l => onTup w fun as => on3 l fun a b c => nmL g sc x a && nmL g sc y b && nmL g sc z c && x != y && x != z && y != z && b.pos.line == a.pos.line && c.pos.line == a.pos.line &&
      !as.all (foldedForSure 8) && !as.all (constantsAlone 8) && as.length == 3 && plainArgs as && mXS g t sc es as
  | .augN x op v, s => onAug s fun o q w => q == binOf op && addSub op && nmL g sc x o && mX g t sc v w
  | .augA e f op v, s => onAug s fun o q w => q == binOf op && addSub op && onAttr o fun b a Ω => a == g.nm f && decide (f < g.nf) && mX g t sc e b && mX g t sc v w
  | .expr e, s => onExprS s fun v => noComp v && mX g t sc e v
  | .ite c a b, s => onIfS s fun x y z => mT g t sc c x && mSS sc a y && mSS sc b z
  | .while c b, s => onWhile s fun x y z => z.isEmpty && mT g t sc c x && mSS sc b y
  | .for x src b, s => onFor s fun o i bd e => e.isEmpty && nmL g sc x o && plainR i && mX g t sc src i && mSS sc b bd
  | .forR x lo hi b, s => onFor s fun o i bd e => e.isEmpty && nmL g sc x o && mSS sc b bd && call0 i fun f as => gl t sc f (.type "range") && plainArgs as && rngB g t sc lo hi as
  | .ret e, s => onRet s fun v => onS v fun w => mX g t sc e w
  | .ret0, s => onRet s fun v => v.isNone
  | .brk, s => onBrk s true
  | .raise, s => onRaise s fun e c => c.isNone && onS e fun e => call1 e fun f a => gl t sc f (.ref g.die) && t.txts.any fun v => gl t sc a v
  | .try b h, s => onTry s fun bd hs e f => e.isEmpty && f.isEmpty && mSS sc b bd && on1 hs fun hd => onHand hd fun ty nm bd => nm.isNone && onS ty (fun f => gl t sc f (.ref g.die)) && on1 bd fun r => onRet r fun u => onS u fun z => retQ g t sc z h
  | .bad, _ => true
noncomputable def mSS (sc : Names) : SS → List Stmt → Bool
  | .nil, ss => ss.isEmpty
  | .cons a r, ss => onC ss fun s ss => mS sc a s && mSS sc r ss
end
end
end
section
set_option tactic.hygienic false
open PySem PySem.W PySem.Calls PyProof.Rows
section
variable {g : Gb} {Φ : SemF} {A : Around} {env : Env} {n : Nat}
theorem notB {b : Bool} (h : (!b) = true) : b = false := by cases b <;> first | rfl | exact ff h
theorem swaps_attr (e : Expr) (o : Expr) (a : Str) (p : Pos) (l : Nat) (env : Env) : swapsWith e (some (.Attribute o a p)) l env = pure false := by cases e <;> rfl
theorem swaps_sub (e : Expr) (o i : Expr) (p : Pos) (l : Nat) (env : Env) : swapsWith e (some (.Subscript o i p)) l env = pure false := by cases e <;> rfl
theorem put_comm {ρ : Loc} {x y : Nat} {v w : AV} (ne : x ≠ y) : (ρ.put x v).put y w = (ρ.put y w).put x v := by
  funext z
  unfold Loc.put
  by_cases h : z = y
  · subst h; simp [Ne.symm ne]
  · simp [h]
theorem three {vs : List Value} {xs : List AV} (r : VRs vs xs) (h : 3 = xs.length) : ∃ a b d va vb vd, vs = [va, vb, vd] ∧ xs = [a, b, d] ∧ VR va a ∧ VR vb b ∧ VR vd d := by
  cases r with
  | nil => cases h
  | cons ra r =>
    cases r with
    | nil => cases h
    | cons rb r =>
      cases r with
      | nil => cases h
      | cons rd r =>
        cases r with
        | nil => exact ⟨_, _, _, _, _, _, rfl, rfl, ra, rb, rd⟩
        | cons _ _ => rw [List.length_cons, List.length_cons, List.length_cons, List.length_cons] at h; lia
theorem okS_unp {x y z : Nat} {es : XS} {as : List Expr} {px py pz tp vp pos : Pos} {k k' : Nat} (h : AllEs g Φ A n env es as) (hp : plainArgs as = true) (hl : as.length = 3)
    (hx : x < g.nN) (hy : y < g.nN) (hz : z < g.nN) (kx : env.kindOf (g.nm x) = some .local) (ky : env.kindOf (g.nm y) = some .local) (kz : env.kindOf (g.nm z) = some .local)
    (xy : x ≠ y) (xz : x ≠ z) (yz : y ≠ z) (l1 : (py.line == px.line) = true) (l2 : (pz.line == px.line) = true) (hf : as.all (foldedForSure 8) = false) (hc : as.all (constantsAlone 8) = false) :
    OkS g Φ A n env (.unp x y z es) (.Assign [.Tuple [.Name (g.nm x) px, .Name (g.nm y) py, .Name (g.nm z) pz] k tp] (.Tuple as k' vp) pos) := by
  intro c O EO CO ρ ks σ s hρ I hh
  have inj := O.st.injN
  have nxy : g.nm x ≠ g.nm y := fun e => xy (inj _ _ hx hy e)
  have nxz : g.nm x ≠ g.nm z := fun e => xz (inj _ _ hx hz e)
  have nyz : g.nm y ≠ g.nm z := fun e => yz (inj _ _ hy hz e)
  have noStar : ∀ {as : List Expr}, plainArgs as = true → (as.any fun | .Starred .. => true | _ => false) = false := by
    intro as
    induction as with
    | nil => intro _; rfl
    | cons a r ih =>
      intro h
      rw [List.any_cons]
      cases a <;> first | cases h | (rw [ih h]; rfl)
  have bk : env.blockKind = .function := by unfold Env.blockKind; rw [EO.hk]; rfl
  refine Assign_Tuple_swapped (names := [g.nm x, g.nm y, g.nm z]) ?_ rfl ?_
  · refine Tuple_ ?_
    rw [backTo_plain hp]
    refine wpAny_mono (h c O EO ρ hρ _ _ σ s I hh) (fun vs s₁ h₁ => ?_) fun Ω Ω t => .th CO hρ t
    obtain ⟨xs, σ₁, rs, I₁, ρ', hput, q⟩ := h₁
    have len := (putAll_get hput).1
    obtain ⟨a, b, d, va, vb, vd, rfl, rfl, ra, rb, rd⟩ := three rs len
    refine wpAny_newTuple ?_ (by show 3 ≤ _; unfold sizeLine; decide)
    refine unpackItems_tuple O.hA (items := #[va, vb, vd]) ⟨⟨.type "tuple", none, .seq #[va, vb, vd] 0, #[]⟩, Heap.get?_push_size _ rfl, rfl, 0, rfl⟩ fun h' hs => ?_
    have I₂ := I₁.push { cls := .type "tuple", data := .seq [va, vb, vd].toArray }
    have I₃ : Inv g c σ₁ { s₁ with heap := h' } := I₂.keeps (tk := s₁.toks) fun b o e => hs b o (fun q => by have := Heap.lt_size e; rw [q] at this; exact Nat.lt_irrefl _ this) e
    show wpAny _ _ (do holding [vb, va] (bindName env (g.nm z) vd); do holding [va] (bindName env (g.nm y) vb); do holding [] (bindName env (g.nm x) va); pure ()) _ _ _
    refine wpAny_bind (wpAny_holding (wpAny_bindName (storeL EO O.st hρ I₃ rd hz kz fun m1 s2 r1 J1 => ?_)))
    refine wpAny_bind (wpAny_holding (wpAny_bindName (storeL (c := { c with m := m1 }) ⟨EO.hk, EO.hl, EO.hg, EO.hb⟩ O.st r1 J1 rb hy ky fun m2 s3 r2 J2 => ?_)))
    refine wpAny_bind (wpAny_holding (wpAny_bindName (storeL (c := { c with m := m2 }) ⟨EO.hk, EO.hl, EO.hg, EO.hb⟩ O.st r2 J2 ra hx kx fun m3 s4 r3 J3 => ?_)))
    refine wpAny_pure ⟨{ c with m := m3 }, ρ', σ₁, ⟨rfl, rfl, rfl, rfl, rfl⟩, ⟨CO.own, CO.data, CO.inj, CO.nd, CO.there⟩, ?_, J3, q⟩
    have e : ρ' = ((ρ.put z d).put y b).put x a := by
      have hput : some (((ρ.put x a).put y b).put z d) = some ρ' := hput
      cases hput
      rw [put_comm xy, put_comm xz, put_comm yz]
    rw [e]; exact r3
  · have nd : ([g.nm x, g.nm y, g.nm z] : List Str).eraseDups.length = 3 := by
      rw [List.eraseDups_cons, List.filter_cons, if_pos (by rw [beq_eq_false_iff_ne.mpr (Ne.symm nxy)]; rfl), List.filter_cons, if_pos (by rw [beq_eq_false_iff_ne.mpr (Ne.symm nxz)]; rfl), List.filter_nil, List.eraseDups_cons, List.filter_cons, if_pos (by rw [beq_eq_false_iff_ne.mpr (Ne.symm nyz)]; rfl)]
      rfl
    have fm : ∀ f : Expr → Option Str, (∀ id p, f (.Name id p) = if (env.kindOf id == some NameKind.local && p.line == px.line) = true then some id else none) → ([.Name (g.nm x) px, .Name (g.nm y) py, .Name (g.nm z) pz] : List Expr).filterMap f = [g.nm x, g.nm y, g.nm z] := fun f hf => by
      rw [List.filterMap_cons, hf, if_pos (by rw [kx, beq_self_eq_true]; exact beq_self_eq_true _), List.filterMap_cons, hf, if_pos (by rw [ky, l1]; rfl), List.filterMap_cons, hf, if_pos (by rw [kz, l2]; rfl)]
      rfl
    unfold swappedStores
    refine (if_neg (by rw [hl, bk]; exact Bool.false_ne_true)).trans ((if_neg fun q => Bool.false_ne_true ((noStar hp).symm.trans q)).trans ?_)
    refine (if_neg fun q => ?_).trans ((if_neg (by rw [hf]; exact Bool.false_ne_true)).trans ?_)
    · rw [fm _ fun Ω Ω => rfl, nd] at q
      exact Bool.false_ne_true q
    · rw [hc, fm _ fun Ω Ω => rfl]
      rfl
end
section
variable {g : Gb} {Φ : SemF} {A : Around} {env : Env} {n : Nat} {c : Cx}
theorem rangeC {elt y : X} {e : Expr} {x : Nat} {caps : List Nat} {id : Str} {p pos : Pos} (O : AOk g A c n) (EO : EnvOk c env) (hg : GlobN g env id (.type "range")) (hy : AllE g Φ A n env y e) (hpl : plainArgs [e] = true)
    {ρ : Loc} (hρ : LocR g c env ρ) {Q : AV → AH → Prop} {E : EX} {σ : AH} {s : Shared} (I : Inv g c σ s) (hh : ev Φ (.compR elt x caps y) ρ Q E σ) {R : Value → Shared → Prop} (k : ∀ r s, wpAny (model g.prog g.w) A (pyIter r) (Ground g Φ c elt x caps [] ρ Q E) (Th g A c E) s → R r s) :
    wpAny (model g.prog g.w) A (eval (.Call (.Name id p) [e] [] pos) env) R (Th g A c E) s :=
  range_eval1 O EO hg hy hpl hρ I hh (fun u σ ⟨k, e2, _⟩ => ⟨k, e2⟩) fun r j t u w σ s hr I ⟨k', e2, b1, b2, q⟩ => k _ _ <| by
    cases e2
    have lz : lim = 10000 := rfl
    rw [intsR_items, compS_N (lo := 0) (n := (j - 0).toNat)] at q
    exact range_iter I hr (by lia) ⟨b1, b2⟩ fun a o s₂ ho nk Ω I₂ => ⟨.rng 0 (j - 0).toNat, a, o, σ, .inr rfl, rfl, ho, nk, I₂, by simp [Src.items]; lia, q⟩
end
section
variable {g : Gb} {t : Tabs} {Φ : SemF} {n : Nat}
theorem retQ_el {P : SS → Prop} {sc : Names} {z : Expr} {b : SS} (h : retQ g t sc z b = true) (k : ∀ y, quietB y = true → mX g t sc y z = true → P (.cons (.ret y) .nil)) : P b := by
  cases b with
  | nil => exact ff h
  | cons s r => cases r with
    | cons _ _ => cases s <;> exact ff h
    | nil => cases s <;> first | exact k _ (andL h) (andR h) | exact ff h
noncomputable def GQ (g : Gb) (t : Tabs) (Φ : SemF) (x : X) : Prop := quietB x = true → ∀ e sc env, ScOk env sc → mX g t sc x e = true → QuietE g Φ env x e
section
variable (TO : TabOk g t) {a b : X}
theorem q_none : GQ g t Φ .none := fun Ω e sc env S h A c R St E => isNone_el h fun k p => okE_none
theorem q_int {i} : GQ g t Φ (.int i) := fun Ω e sc env S h A c R St E => onConst_el h fun v k p h => eqB (P := fun v => OkE g Φ A c env _ (.Constant v k p)) h okE_int
include TO
theorem q_loc {x} : GQ g t Φ (.loc x) := fun Ω e sc env S h A c R St E => onName_el h fun v p h => eqB (P := fun v => OkE g Φ A c env _ (.Name v p)) (andL h) (okE_loc E (TO.nd x (of_decide_eq_true (andR h))) (TO.nc x (of_decide_eq_true (andR h))))
theorem q_u {o} (ia : GQ g t Φ a) : GQ g t Φ (.u o a) := fun qq e sc env S h A c R St E => by
  cases o with
  | isN => exact cmp1_el h fun l o r q h => eqB (P := fun o => OkE g Φ A c env _ (.Compare l [o] [r] q)) (andL (andL h)) (isNone_el (P := fun r => OkE g Φ A c env _ (.Compare l [_] [r] q)) (andR (andL h)) fun k p => okE_isN (ia qq _ _ _ S (andR h) A c R St E))
  | len => exact call1_el h fun f x q h => gl_el TO S (P := fun f => OkE g Φ A c env _ (.Call f [x] [] q)) (andL (andL h)) fun id p G => okE_len St E G (andR (andL h)) (ia qq _ _ _ S (andR h) A c R St E)
  | _ => exact ff qq
omit TO in
theorem q_cmp {o : B2} {op : CmpOp} (ho : cmpId o = some op) {e sc env} (S : ScOk env sc) (qa : quietB a = true) (qb : quietB b = true) (ia : GQ g t Φ a) (ib : GQ g t Φ b) (h : (cmp1 e fun l q r => q == op && plainR r && mX g t sc a l && mX g t sc b r) = true) : QuietE g Φ env (.b o a b) e := fun A c R St E =>
  cmp1_el h fun l q r p h => eqB (P := fun q => OkE g Φ A c env _ (.Compare l [q] [r] p)) (andL (andL (andL h))) (okE_cmp R (ia qa _ _ _ S (andR (andL h)) A c R St E) (ib qb _ _ _ S (andR h) A c R St E) ho (andR (andL (andL h))))
omit TO in
theorem q_b {o} (ia : GQ g t Φ a) (ib : GQ g t Φ b) : GQ g t Φ (.b o a b) := fun qq e sc env S h => by
  cases o with
  | cmp op => exact q_cmp rfl S (andL qq) (andR qq) ia ib h
  | inl => exact q_cmp rfl S (andL qq) (andR qq) ia ib h
  | ar op => exact fun A c R St E => onBin_el h fun l q r p h => eqB (P := fun q => OkE g Φ A c env _ (.BinOp l q r p)) (andL (andL h)) (okE_bin (ia (andL qq) _ _ _ S (andR (andL h)) A c R St E) (ib (andR qq) _ _ _ S (andR h) A c R St E) rfl)
  | _ => exact ff qq
theorem gQ (x : X) : GQ g t Φ x :=
  @X.rec (GQ g t Φ) (fun Ω => True) (fun Ω => True) (fun Ω => True) q_none (fun Ω q => ff q) (fun Ω => q_int) (fun Ω q => ff q) (fun Ω => q_loc TO) (fun o a i => q_u TO i) (fun o a b i j => q_b i j) (fun Ω Ω Ω Ω Ω Ω Ω Ω q => ff q) (fun Ω Ω Ω Ω q => ff q) (fun Ω Ω Ω Ω Ω Ω q => ff q)
    (fun Ω Ω Ω q => ff q) (fun Ω Ω Ω Ω q => ff q) (fun Ω Ω Ω Ω q => ff q) (fun Ω Ω Ω Ω Ω Ω Ω q => ff q) (fun Ω Ω q => ff q) (fun Ω Ω Ω Ω Ω q => ff q) (fun Ω Ω q => ff q) (fun Ω Ω q => ff q) (fun q => ff q) (fun Ω Ω Ω Ω Ω Ω q => ff q) (fun Ω Ω Ω Ω Ω Ω q => ff q) (fun Ω Ω Ω Ω Ω Ω q => ff q)
    (fun Ω Ω q => ff q) (fun q => ff q) (fun q => ff q) trivial (fun Ω Ω Ω Ω => trivial) (fun Ω Ω => trivial) (fun Ω Ω Ω Ω Ω Ω Ω Ω => trivial) (fun Ω Ω => trivial) (fun Ω Ω => trivial) (fun Ω Ω => trivial) trivial (fun Ω Ω Ω Ω => trivial) x
end
theorem nmL_el {env : Env} {sc : Names} (S : ScOk env sc) {P : Expr → Prop} {x : Nat} {o : Expr} (h : nmL g sc x o = true) (k : ∀ p, x < g.nN → env.kindOf (g.nm x) = some .local → P (.Name (g.nm x) p)) : P o :=
  onName_el h fun v p h => eqB (P := fun v => P (.Name v p)) (andL (andL h)) (k p (of_decide_eq_true (andR (andL h))) (S.kind (andR h)))
theorem here_of {env : Env} {sc : Names} (S : ScOk env sc) {x : Nat} (h : hereB g sc x = true) : isHere env (g.nm x) :=
  (Bool.or_eq_true_iff.mp (andR h)).imp S.kind fun h => let ⟨a, ha⟩ := Option.isSome_iff_exists.mp (S.cells _ (mem_of_lookup (beq_iff_eq.mp h))); ⟨a, S.kind h, ha⟩
variable {A : Around} {env : Env} {sc : Names}
section
variable (TO : TabOk g t) (H : CallOk g n Φ) (F : FmS g sc env A)
include TO H F
theorem aX {x : X} {e : Expr} (h : mX g t sc x e = true) : AllE g Φ A n env x e := fun c O EO => gX TO H x _ _ _ _ _ ⟨F.S, O, F.T, EO⟩ h
theorem aT {x : T} {e : Expr} (h : mT g t sc x e = true) : AllT g Φ A n env x e := fun c O EO => gT TO H x _ _ _ _ _ ⟨F.S, O, F.T, EO⟩ h
theorem aP {x : X} {o : Option Expr} (h : part (fun e => mX g t sc x e) x o = true) : AllP g Φ A n env x o := fun c O EO => part_ok (gX TO H x) ⟨F.S, O, F.T, EO⟩ h
theorem lc_ok {x : Nat} {e elt : X} {y : Nat} {caps : List Nat} {src : Expr → Bool} {v : Expr} {p pos : Pos} (hN : x < g.nN) (h : lcB g t sc x p.line y caps v elt src = true)
    (k : ∀ it, plainR it = true → src it = true → ∀ c, AOk g A c n → EnvOk c env → CellOk c env → ∀ ρ Q E σ s, LocR g c env ρ → Inv g c σ s → ev Φ e ρ Q E σ →
          wpAny (model g.prog g.w) A (eval it env) (fun xv s₁ => wpAny (model g.prog g.w) A (pyIter xv) (Ground g Φ c elt y caps [] ρ Q E) (Th g A c E) s₁) (Th g A c E) s) :
    OkS g Φ A n env (.assign x e) (.Assign [.Name (g.nm x) p] v pos) :=
  onLC_el (P := fun v => OkS g Φ A n env (.assign x e) (.Assign [.Name (g.nm x) p] v pos)) h fun el z px it scope cp h => eqB (P := fun z => OkS g Φ A n env _ (.Assign _ (.ListComp el [⟨.Name z px, it, [], 0⟩] scope cp) pos)) (andL (andL (andL (andL (andL (andL (andL h)))))))
    (have CS := compOk_of F.S (andR (andL (andL (andL (andL (andL (andL h)))))))
    okS_assignC (src := .none) F.T CS (fun C c O' E' => gX TO H elt _ _ _ _ _ ⟨comp_sc F.S F.k CS.cell C, O', F.T, E'⟩ (andR (andL (andL (andL (andL h)))))) (andR (andL (andL (andL (andL (andL h)))))) hN (F.S.kind (andR (andL (andL h)))) (andR (andL h)) (notB (andR h)) (k it (andR (andL (andL (andL (andL (andL h)))))) (andR (andL (andL (andL h))))))
theorem lcX_ok {x : Nat} {e : X} {v : Expr} {p pos : Pos} (hN : x < g.nN) (h : lcX g t sc x p.line v e = true) : OkS g Φ A n env (.assign x e) (.Assign [.Name (g.nm x) p] v pos) := by
  cases e with
  | comp elt y caps src =>
    refine lc_ok TO H F hN h fun it hp hs c O EO CO ρ Q E σ s hρ I hh => ?_
    refine wpAny_mono (aX TO H F hs c O EO ρ hρ _ E σ s I hh) (fun v s₁ h₁ => ?_) fun Ω Ω t => t
    obtain ⟨_, σ₁, r, I₁, l, xs, rfl, hl, hz, q⟩ := h₁
    cases r
    rw [compS_L] at q
    exact iter_list I₁ hl fun a o s₂ ho nk Ω I₂ => ⟨.lst l xs, a, o, σ₁, .inr rfl, rfl, ho, nk, I₂, hz, q⟩
  | compR elt y caps b =>
    refine lc_ok TO H F hN h fun it hp hs c O EO CO ρ Q E σ s hρ I hh => call1_el (P := fun it => wpAny (model g.prog g.w) A (eval it env) (fun xv s₁ => wpAny (model g.prog g.w) A (pyIter xv) (Ground g Φ c elt y caps [] ρ Q E) (Th g A c E) s₁) (Th g A c E) s) hs fun f a qq hs => ?_
    refine gl_el TO F.S (P := fun f => wpAny (model g.prog g.w) A (eval (.Call f [a] [] qq) env) _ (Th g A c E) s) (andL (andL hs)) fun id p G => ?_
    exact rangeC O EO G (aX TO H F (andR hs)) (andR (andL hs)) hρ I hh fun r s h => h
  | _ => exact ff h
theorem ass_ok {x : Nat} {e : X} {o v : Expr} {pos : Pos} (h : assB g t sc x e o v = true) : OkS g Φ A n env (.assign x e) (.Assign [o] v pos) :=
  onNameP_el (P := fun o => OkS g Φ A n env (.assign x e) (.Assign [o] v pos)) h fun id p h => eqB (P := fun id => OkS g Φ A n env (.assign x e) (.Assign [.Name id p] v pos)) (andL h) <| (Bool.or_eq_true_iff.mp (andR h)).elim
    (fun h => okS_assign (aX TO H F (andR h)) (of_decide_eq_true (andL (andL (andL h)))) (here_of F.S (andL (andL h))) ((Bool.or_eq_true_iff.mp (andR (andL h))).imp_right F.S.kind))
    fun h => lcX_ok TO H F (of_decide_eq_true (andL h)) (andR h)
theorem rng_of {lo hi : X} {as : List Expr} (h : rngB g t sc lo hi as = true) : RngA g Φ A n env lo hi as := by
  rcases Bool.or_eq_true_iff.mp h with h | h
  · cases lo with
    | int i =>
      cases i with
      | ofNat i =>
        cases i with
        | zero => exact on1_el (P := fun as => RngA g Φ A n env (.int 0) hi as) h fun a h => .one (aX TO H F h)
        | succ i => exact ff h
      | negSucc i => exact ff h
    | _ => exact ff h
  · exact on2_el (P := fun as => RngA g Φ A n env lo hi as) h fun a b h => .two (aX TO H F (andL h)) (aX TO H F (andR h))
end
theorem op_is {op : AOp} (h : addSub op = true) : op = .add ∨ op = .sub := by cases op <;> first | exact .inl rfl | exact .inr rfl | exact ff h
variable (g t Φ n)
noncomputable def GS (x : S) : Prop := ∀ s sc env A, FmS g sc env A → mS g t sc x s = true → OkS g Φ A n env x s
noncomputable def GSS (x : SS) : Prop := ∀ s sc env A, FmS g sc env A → mSS g t sc x s = true → OkSS g Φ A n env x s
variable {g t Φ n}
variable (TO : TabOk g t) (H : CallOk g n Φ)
include TO H
section
variable {e v i lo hi : X} {f x y z : Nat} {es : XS} {tt : T} {a b : SS} {op : AOp}
theorem s_assign : GS g t Φ n (.assign x e) := fun s sc env A F h => asgn_el h fun o v q h => ass_ok TO H F h
theorem s_setA : GS g t Φ n (.setA e f v) := fun s sc env A F h => asgn_el h fun o w q h => onAttr_el (P := fun o => OkS g Φ A n env _ (.Assign [o] w q)) h fun b a p h => eqB (P := fun a => OkS g Φ A n env _ (.Assign [.Attribute b a p] w q)) (andL (andL (andL h)))
  (okS_setA (aX TO H F (andR h)) (aX TO H F (andR (andL h))) (of_decide_eq_true (andR (andL (andL h)))) (swaps_attr ..))
theorem s_setI : GS g t Φ n (.setI e i v) := fun s sc env A F h => asgn_el h fun o w q h => onSub_el (P := fun o => OkS g Φ A n env _ (.Assign [o] w q)) h fun b a p h => okS_setI (aX TO H F (andR h)) (aX TO H F (andL (andL h))) (aX TO H F (andR (andL h))) (swaps_sub ..)
theorem s_setD : GS g t Φ n (.setD e i v) := fun s sc env A F h => asgn_el h fun o w q h => onSub_el (P := fun o => OkS g Φ A n env _ (.Assign [o] w q)) h fun b a p h => okS_setD (aX TO H F (andR h)) (aX TO H F (andL (andL h))) (aX TO H F (andR (andL h))) (swaps_sub ..)
theorem s_setS : GS g t Φ n (.setS e lo hi v) := fun s sc env A F h => asgn_el h fun o w q h => onSub_el (P := fun o => OkS g Φ A n env _ (.Assign [o] w q)) h fun b i p h => onSlice_el (P := fun i => OkS g Φ A n env _ (.Assign [.Subscript b i p] w q)) h fun x y z p' h =>
  none_el (P := fun z => OkS g Φ A n env _ (.Assign [.Subscript b (.Slice x y z p') p] w q)) (andL (andL (andL (andL h)))) (okS_setS (aX TO H F (andR h)) (aX TO H F (andR (andL (andL (andL h))))) (aP TO H F (andR (andL (andL h)))) (aP TO H F (andR (andL h))) (swaps_sub ..))
theorem s_unp : GS g t Φ n (.unp x y z es) := fun s sc env A F h => asgn_el h fun o w q h => onTup_el (P := fun o => OkS g Φ A n env _ (.Assign [o] w q)) h fun l k p h => onTup_el (P := fun w => OkS g Φ A n env _ (.Assign [_] w q)) h fun as k' p' h =>
  on3_el (P := fun l => OkS g Φ A n env _ (.Assign [.Tuple l k p] _ q)) h fun a b c h =>
    have h12 := andL h
    have h11 := andL h12
    have h10 := andL h11
    have h9 := andL h10
    have h8 := andL h9
    have h7 := andL h8
    have h6 := andL h7
    have h5 := andL h6
    have h4 := andL h5
    have h3 := andL h4
    have h2 := andL h3
    nmL_el F.S (P := fun a => (b.pos.line == a.pos.line) = true → (c.pos.line == a.pos.line) = true → OkS g Φ A n env _ (.Assign [.Tuple [a, b, c] k p] _ q)) (andL h2) (fun pa xN xk => nmL_el F.S (P := fun b => (b.pos.line == pa.line) = true → (c.pos.line == pa.line) = true → OkS g Φ A n env _ (.Assign [.Tuple [_, b, c] k p] _ q)) (andR h2)
      (fun pb yN yk => nmL_el F.S (P := fun c => (pb.line == pa.line) = true → (c.pos.line == pa.line) = true → OkS g Φ A n env _ (.Assign [.Tuple [_, _, c] k p] _ q)) (andR h3) fun pc zN zk l1 l2 =>
        okS_unp (fun c O EO => gXS TO H es _ _ _ _ _ ⟨F.S, O, F.T, EO⟩ (andR h)) (andR h12) (beq_iff_eq.mp (andR h11)) xN yN zN xk yk zk (bne_iff_ne.mp (andR h4)) (bne_iff_ne.mp (andR h5)) (bne_iff_ne.mp (andR h6)) l1 l2 (notB (andR h9)) (notB (andR h10)))) (andR h7) (andR h8)
theorem s_augN : GS g t Φ n (.augN x op v) := fun s sc env A F h => onAug_el h fun o k w p h => eqB (P := fun k => OkS g Φ A n env _ (.AugAssign o k w p)) (andL (andL (andL h))) (nmL_el F.S (P := fun o => OkS g Φ A n env _ (.AugAssign o _ w p)) (andR (andL h)) fun p' xN xk => okS_augN (aX TO H F (andR h)) (op_is (andR (andL (andL h)))) xN xk)
theorem s_augA : GS g t Φ n (.augA e f op v) := fun s sc env A F h => onAug_el h fun o k w p h => eqB (P := fun k => OkS g Φ A n env _ (.AugAssign o k w p)) (andL (andL h)) (have h2 := andR (andL h)
  onAttr_el (P := fun o => OkS g Φ A n env _ (.AugAssign o _ w p)) (andR h) fun b a p' h => eqB (P := fun a => OkS g Φ A n env _ (.AugAssign (.Attribute b a p') _ w p)) (andL (andL (andL h))) (okS_augA (aX TO H F (andR (andL h))) (aX TO H F (andR h)) (op_is h2) (of_decide_eq_true (andR (andL (andL h))))))
theorem s_expr : GS g t Φ n (.expr e) := fun s sc env A F h => onExprS_el h fun v p h => okS_expr (aX TO H F (andR h)) (andL h)
theorem s_ret : GS g t Φ n (.ret e) := fun s sc env A F h => onRet_el h fun v p h => onS_el (P := fun v => OkS g Φ A n env _ (.Return v p)) h fun w h => okS_ret (aX TO H F h)
omit TO H
theorem s_ret0 : GS g t Φ n .ret0 := fun s sc env A F h => onRet_el h fun v p h => none_el (P := fun v => OkS g Φ A n env _ (.Return v p)) h okS_ret0
theorem s_brk : GS g t Φ n .brk := fun s sc env A F h => onBrk_el h fun p Ω => okS_brk
include TO
theorem s_raise : GS g t Φ n .raise := fun s sc env A F h => onRaise_el h fun e c p h => none_el (P := fun c => OkS g Φ A n env _ (.Raise e c p)) (andL h) (onS_el (P := fun e => OkS g Φ A n env _ (.Raise e none p)) (andR h) fun e h =>
  call1_el (P := fun e => OkS g Φ A n env _ (.Raise (some e) none p)) h fun f a q h => gl_el TO F.S (P := fun f => OkS g Φ A n env _ (.Raise (some (.Call f [a] [] q)) none p)) (andL h) fun id p' G =>
    let ⟨v, _, h⟩ := List.any_eq_true.mp (andR h); gl_el TO F.S (P := fun a => OkS g Φ A n env _ (.Raise (some (.Call _ [a] [] q)) none p)) h fun id' p'' G' => okS_raise TO.dieF G G')
include H
variable (ia : GSS g t Φ n a) (ib : GSS g t Φ n b)
include ia
theorem s_while : GS g t Φ n (.while tt a) := fun s sc env A F h => onWhile_el h fun x y z p h => nil_el (P := fun z => OkS g Φ A n env _ (.While x y z p)) (andL (andL h)) (okS_while (aT TO H F (andR (andL h))) (ia _ _ _ _ F (andR h)))
theorem s_for : GS g t Φ n (.for x e a) := fun s sc env A F h => onFor_el h fun o i bd el p h => nil_el (P := fun el => OkS g Φ A n env _ (.For o i bd el p)) (andL (andL (andL (andL h)))) (nmL_el F.S (P := fun o => OkS g Φ A n env _ (.For o i bd [] p)) (andR (andL (andL (andL h)))) fun p' xN xk =>
  okS_for (aX TO H F (andR (andL h))) (ia _ _ _ _ F (andR h)) xN xk (andR (andL (andL h))))
theorem s_forR : GS g t Φ n (.forR x lo hi a) := fun s sc env A F h => onFor_el h fun o i bd el p h => nil_el (P := fun el => OkS g Φ A n env _ (.For o i bd el p)) (andL (andL (andL h))) (have h3 := andR (andL h)
  nmL_el F.S (P := fun o => OkS g Φ A n env _ (.For o i bd [] p)) (andR (andL (andL h))) fun p' xN xk => call0_el (P := fun i => OkS g Φ A n env _ (.For _ i bd [] p)) (andR h) fun f as q h => gl_el TO F.S (P := fun f => OkS g Φ A n env _ (.For _ (.Call f as [] q) bd [] p)) (andL (andL h)) fun id p'' G =>
    okS_forR G (rng_of TO H F (andR h)) (andR (andL h)) (ia _ _ _ _ F h3) xN xk)
omit H in
theorem s_try : GS g t Φ n (.try a b) := fun s sc env A F h => onTry_el h fun bd hs e f p h => nil_el (P := fun e => OkS g Φ A n env _ (.Try bd hs e f p)) (andL (andL (andL h))) (nil_el (P := fun f => OkS g Φ A n env _ (.Try bd hs [] f p)) (andR (andL (andL h))) (have h3 := andR (andL h)
  on1_el (P := fun hs => OkS g Φ A n env _ (.Try bd hs [] [] p)) (andR h) fun hd h => onHand_el (P := fun hd => OkS g Φ A n env _ (.Try bd [hd] [] [] p)) h fun ty nm bd' q h => none_el (P := fun nm => OkS g Φ A n env _ (.Try bd [.ExceptHandler ty nm bd' q] [] [] p)) (andL (andL h)) (have h4 := andR h
    onS_el (P := fun ty => OkS g Φ A n env _ (.Try bd [.ExceptHandler ty none bd' q] [] [] p)) (andR (andL h)) fun ty h => gl_el TO F.S (P := fun ty => OkS g Φ A n env _ (.Try bd [.ExceptHandler (some ty) none bd' q] [] [] p)) h fun id p' G =>
      on1_el (P := fun bd' => OkS g Φ A n env _ (.Try bd [.ExceptHandler _ none bd' q] [] [] p)) h4 fun r h => onRet_el (P := fun r => OkS g Φ A n env _ (.Try bd [.ExceptHandler _ none [r] q] [] [] p)) h fun u p'' h => onS_el (P := fun u => OkS g Φ A n env _ (.Try bd [.ExceptHandler _ none [.Return u p''] q] [] [] p)) h fun z h =>
        retQ_el (P := fun b => OkS g Φ A n env (.try a b) _) h fun y q1 q2 => okS_try F.T (ia _ _ _ _ F h3) (gQ TO _ q1 _ _ _ F.S q2) G TO.die)))
include ib
theorem s_ite : GS g t Φ n (.ite tt a b) := fun s sc env A F h => onIfS_el h fun x y z p h => okS_ite (aT TO H F (andL (andL h))) (ia _ _ _ _ F (andR (andL h))) (ib _ _ _ _ F (andR h))
end
omit TO H in
theorem s_bad : GS g t Φ n .bad := fun s sc env A F h c O EO CO ρ k σ s hρ I hh => hh.elim
omit TO H in
theorem s_nil : GSS g t Φ n .nil := fun s sc env A F h => nil_el h okSS_nil
omit TO H in
theorem s_cons {a : S} {r : SS} (ia : GS g t Φ n a) (ir : GSS g t Φ n r) : GSS g t Φ n (.cons a r) := fun s sc env A F h => onC_el h fun x r h => okSS_cons (ia _ _ _ _ F (andL h)) (ir _ _ _ _ F (andR h))
theorem gSS (x : SS) : GSS g t Φ n x :=
  @SS.rec (GS g t Φ n) (GSS g t Φ n) (fun Ω Ω => s_assign TO H) (fun Ω Ω Ω => s_setA TO H) (fun Ω Ω Ω => s_setI TO H) (fun Ω Ω Ω => s_setD TO H) (fun Ω Ω Ω Ω => s_setS TO H) (fun Ω Ω Ω Ω => s_unp TO H) (fun Ω Ω Ω => s_augN TO H) (fun Ω Ω Ω Ω => s_augA TO H) (fun Ω => s_expr TO H) (fun Ω Ω Ω i j => s_ite TO H i j) (fun Ω Ω i => s_while TO H i) (fun Ω Ω Ω i => s_for TO H i) (fun Ω Ω Ω Ω i => s_forR TO H i)
    (fun Ω => s_ret TO H) s_ret0 s_brk (s_raise TO) (fun Ω Ω i j => s_try TO i) s_bad s_nil (fun Ω Ω i j => s_cons i j) x
end
end
section
set_option tactic.hygienic false
open PySem PySem.W PySem.Calls PyProof.Rows
noncomputable def vrB1 : Value → AV → Bool
  | .none, .none => true
  | .bool a, .bool b => a == b
  | .int a _, .int b => a == b
  | _, _ => false
noncomputable def vrB : List Value → List AV → Bool
  | [], ys => ys.isEmpty
  | v :: vs, ys => onC ys fun x xs => vrB1 v x && vrB vs xs
theorem vrB1_of {v : Value} {x : AV} (h : vrB1 v x = true) : VR v x := by
  cases x with
  | none => cases v <;> first | exact .none | exact ff h
  | bool b => cases v <;> first | exact (beq_iff_eq.mp h) ▸ .bool _ | exact ff h
  | int i => cases v <;> first | exact (beq_iff_eq.mp h) ▸ .int _ _ | exact ff h
  | _ => cases v <;> exact ff h
theorem vrB_of : ∀ {vs : List Value} {xs : List AV}, vrB vs xs = true → VRs vs xs
  | [], xs, h => nil_el (P := fun xs => VRs [] xs) h .nil
  | v :: vs, xs, h => onC_el (P := fun xs => VRs (v :: vs) xs) h fun x xs h => .cons (vrB1_of (andL h)) (vrB_of (andR h))
noncomputable def onFunc (d : Data) (p : FuncData → Bool) : Bool := match d with | .func fd => p fd | _ => false
noncomputable def onSeq (d : Data) (p : Array Value → Bool) : Bool := match d with | .seq a _ => p a | _ => false
noncomputable def onRef (v : Value) (p : Addr → Bool) : Bool := match v with | .ref a => p a | _ => false
noncomputable def onStmts (b : FuncBody) (p : List Stmt → Bool) : Bool := match b with | .stmts l => p l | _ => false
theorem onFunc_el {P : Data → Prop} {d p} (h : onFunc d p = true) (k : ∀ fd, p fd = true → P (.func fd)) : P d := by cases d <;> first | exact k _ h | exact ff h
theorem onSeq_el {P : Data → Prop} {d p} (h : onSeq d p = true) (k : ∀ a n, p a = true → P (.seq a n)) : P d := by cases d <;> first | exact k _ _ h | exact ff h
theorem onRef_el {P : Value → Prop} {d p} (h : onRef d p = true) (k : ∀ a, p a = true → P (.ref a)) : P d := by cases d <;> first | exact k _ h | exact ff h
theorem onStmts_el {P : FuncBody → Prop} {d p} (h : onStmts d p = true) (k : ∀ a, p a = true → P (.stmts a)) : P d := by cases d <;> first | exact k _ h | exact ff h
noncomputable def fnB (g : Gb) (t : Tabs) (f : Nat) (F : FI) : Bool := onS (g.K.lookup (g.fa f)) fun o => onFunc o.data fun fd => onStmts fd.body fun body =>
  fd.globals == mainGlobals && fd.builtins == builtinsNs && fd.closure.isEmpty && codeIn g.K fd.code fd.qualname &&
  fd.params.posonlyargs.isEmpty && fd.params.vararg.isNone && fd.params.kwonlyargs.isEmpty && fd.params.kwarg.isNone && fd.params.args.map (·.arg) == F.params.map g.nm &&
  (F.dflt.isEmpty && fd.defaults == .none || onRef fd.defaults fun T => onS (g.K.lookup T) fun o => onSeq o.data fun items => vrB items.toList F.dflt && decide (F.dflt.length ≤ F.params.length)) &&
  decide F.params.Nodup && F.params.all (fun x => decide (x < g.nN) && (fd.scope.names.lookup (g.nm x) == some .local || fd.scope.names.lookup (g.nm x) == some .cell)) &&
  decide ((cellsFrom 0 fd.scope.names []).map (·.1)).Nodup && fd.scope.kind == .function && !fd.scope.isCoroutine && !fd.scope.isGenerator && mSS g t fd.scope.names F.body body
section
variable {g : Gb} {t : Tabs}
theorem isNone_of {α : Type} {o : Option α} (h : o.isNone = true) : o = none := Option.isNone_iff_eq_none.mp h
theorem fd_eq {fd : FuncData} {b : List Stmt} (h0 : fd.body = .stmts b) (h1 : fd.globals = mainGlobals) (h2 : fd.builtins = builtinsNs) (h3 : fd.closure = []) :
    fd = fnOf fd.name fd.qualname fd.params b fd.scope fd.defaults fd.kwdefaults fd.doc fd.pyModule fd.annotations fd.code fd.closureTuple := by
  cases fd; cases h0; cases h1; cases h2; cases h3; rfl
theorem df_of {F : FI} {dV : Value} (h : (F.dflt.isEmpty && dV == .none || onRef dV fun T => onS (g.K.lookup T) fun o => onSeq o.data fun items => vrB items.toList F.dflt && decide (F.dflt.length ≤ F.params.length)) = true) : DfAt g F dV :=
  (Bool.or_eq_true_iff.mp h).elim (fun h => .no (List.isEmpty_iff.mp (andL h)) (beq_iff_eq.mp (andR h))) fun h => onRef_el h fun T h => onS_el (P := fun q => g.K.lookup T = q → DfAt g F (.ref T)) h (fun o h e =>
    onSeq_el (P := fun d => o.data = d → DfAt g F (.ref T)) h (fun a n h d => .at_ T o a n rfl e d (vrB_of (andL h)) (of_decide_eq_true (andR h))) rfl) rfl
theorem fn_el {f : Nat} {F : FI} (h : fnB g t f F = true) {P : Prop} (k : ∀ qual body scope cdv, FnAt g f F qual body scope cdv → mSS g t scope.names F.body body = true → P) : P :=
  onS_el (P := fun q => g.K.lookup (g.fa f) = q → P) h (fun o h e => onFunc_el (P := fun d => o.data = d → P) h (fun fd h d => onStmts_el (P := fun b => fd.body = b → P) h (fun body h b =>
    have h16 := andL h
    have h15 := andL h16
    have h14 := andL h15
    have h13 := andL h14
    have h12 := andL h13
    have h11 := andL h12
    have h10 := andL h11
    have h9 := andL h10
    have h8 := andL h9
    have h7 := andL h8
    have h6 := andL h7
    have h5 := andL h6
    have h4 := andL h5
    have h3 := andL h4
    have h2 := andL h3
    have e2 := fd_eq b (beq_iff_eq.mp (andL h2)) (beq_iff_eq.mp (andR h2)) (List.isEmpty_iff.mp (andR h3))
    have hx := List.all_eq_true.mp (andR h12)
    k fd.qualname body fd.scope fd.code ⟨⟨fd.name, fd.params, fd.defaults, fd.kwdefaults, fd.doc, fd.pyModule, fd.annotations, o.dict, o.cls, o.slots, fd.closureTuple, e.trans (congrArg some (obj_eq (d.trans (congrArg Data.func e2)))), ⟨List.isEmpty_iff.mp (andR h5), beq_iff_eq.mp (andR h9), isNone_of (andR h6), List.isEmpty_iff.mp (andR h7), isNone_of (andR h8)⟩, df_of (andR h10)⟩,
      andR h4, of_decide_eq_true (andR h11), fun x m => of_decide_eq_true (andL (hx x m)), fun x m => (Bool.or_eq_true_iff.mp (andR (hx x m))).imp beq_iff_eq.mp beq_iff_eq.mp, of_decide_eq_true (andR h13), beq_iff_eq.mp (andR h14), notB (andR h15), notB (andR h16)⟩ (andR h)) rfl) rfl) rfl
where obj_eq {o : Obj} {d : Data} (h : o.data = d) : o = ⟨o.cls, o.dict, d, o.slots⟩ := by cases o; cases h; rfl
theorem call_ok (TO : TabOk g t) {fi : Nat → Option FI} (hall : ∀ f F, fi f = some F → fnB g t f F = true) : ∀ n, CallOk g n (callF fi n)
  | 0 => fun f vs Q E σ h => h.elim
  | n + 1 => fun f vs Q E σ h A c hd hu hA S hfr vals s r I => by
    obtain ⟨F, ρ, h1, h2, h3⟩ := h
    exact fn_el (hall f F h1) fun qual body scope cdv FA hm =>
      call_step FA (fun A L' TP => gSS TO (call_ok TO hall n) F.body body _ _ _ ⟨⟨rfl, fun x hx => lookup_isSome (cellsFrom_has (.inl hx))⟩, TP, FA.sk⟩ hm) h2 h3 hd hu hA S hfr r I
end
end
section
set_option tactic.hygienic false
open PySem PySem.W PySem.Calls PyProof.Rows
inductive ArgL (h : Heap) (a : Nat) (ys : List AV) : Prop | mk (vs : List Value) (hL : h.IsList a vs.toArray) (r : VRs vs ys)
section
variable (g : Gb) (A : Around) (n : Nat) (env : Env) (a : Nat) (ys : List AV) (sem : Loc → Ks → AH → Prop)
noncomputable def OkA1 (x : Stmt) : Prop :=
  ∀ c, ArgL c.base a ys → AOk g A c n → EnvOk c env → CellOk c env → ∀ ρ k σ s, LocR g c env ρ → Inv g c σ s → sem ρ k σ → wpAny (model g.prog g.w) A (exec x env) (PF g c env k) (TF g A c env k) s
noncomputable def OkA (stmts : List Stmt) : Prop :=
  ∀ c, ArgL c.base a ys → AOk g A c n → EnvOk c env → CellOk c env → ∀ ρ k σ s, LocR g c env ρ → Inv g c σ s → sem ρ k σ → wpAny (model g.prog g.w) A (execs stmts env) (PF g c env k) (TF g A c env k) s
end
section
variable {g : Gb} {t : Tabs} {Φ : SemF} {n : Nat} {A : Around} {env : Env} {a : Nat} {ys : List AV} {s1 s2 : Loc → Ks → AH → Prop}
theorem okA_cons {x : Stmt} {xs : List Stmt} (h : OkA1 g A n env a ys s1 x) (k : OkA g A n env a ys s2 xs) : OkA g A n env a ys (fun ρ K σ => s1 ρ (Ks.nx K (fun ρ σ => s2 ρ K σ)) σ) (x :: xs) := by
  intro c AL O EO CO ρ kk σ s hρ I hh
  refine wpAny_execs_cons (wpAny_mono (h c AL O EO CO ρ _ σ s hρ I hh) (fun fl s₁ h₁ => ?_) fun Ω Ω t => t)
  cases fl with
  | next =>
    obtain ⟨c', ρ', σ', N, CO', hρ', I', q⟩ := h₁
    exact wpAny_mono (k c' (N.base ▸ AL) (O.nx N) (EO.nx N) CO' ρ' kk σ' s₁ hρ' I' q) (fun fl s₂ h₂ => PV.nx (Q := fun Ω Ω => True) (v := .none) N h₂ rfl rfl rfl) fun Ω Ω t => t.nx N rfl rfl
  | brk => exact h₁
  | cont => exact h₁
  | ret v => exact h₁
theorem okA_S {st : S} {x : Stmt} (h : OkS g Φ A n env st x) : OkA1 g A n env a ys (ex Φ st) x := fun c Ω => h c
theorem okA_SS {st : SS} {xs : List Stmt} (h : OkSS g Φ A n env st xs) : OkA g A n env a ys (exs Φ st) xs := fun c Ω => h c
noncomputable def forA (Φ : SemF) (e0 : X) (y a : Nat) (i : Int) (ys : List AV) (x : Nat) (b : SS) (ρ : Loc) (K : Ks) (σ : AH) : Prop :=
  ev Φ e0 ρ (fun u σ => ρ y = some (.ref a) ∧ ∃ j, ys.length ≤ lim ∧ hiB ys.length (.int i) = some j ∧ ∀ m, σ m = none →
    sem2 .lcat u (.ref m) (fun t σ => ListS t σ fun l xs => forL (fun ρ k σ => exs Φ b ρ k σ) x l xs K xs ρ σ) (σ.put m (.list (cut ys 0 j)))) (K.exc ρ) σ
variable (TO : TabOk g t) (H : CallOk g n Φ) {sc : Names} (F : FmS g sc env A)
include TO H F
theorem forA_ok {e0 : X} {y x : Nat} {i : Int} {b : SS} {s : Stmt} (h : mS g t sc (.for x (.b .lcat e0 (.slice (.loc y) .absent (.int i))) b) s = true) : OkA1 g A n env a ys (forA Φ e0 y a i ys x b) s := by
  refine onFor_el h fun o it bd el p h => nil_el (P := fun el => OkA1 g A n env a ys (forA Φ e0 y a i ys x b) (.For o it bd el p)) (andL (andL (andL (andL h)))) (nmL_el F.S (P := fun o => OkA1 g A n env a ys (forA Φ e0 y a i ys x b) (.For o it bd [] p)) (andR (andL (andL (andL h)))) fun p' xN xk => ?_)
  have hp := andR (andL (andL h))
  have hb := andR h
  replace h := andR (andL h)
  revert hp
  refine onBin_el (P := fun it => plainR it = true → OkA1 g A n env a ys _ (.For _ it bd [] p)) h fun l op r q h => ?_
  refine eqB (P := fun op => plainR (.BinOp l op r q) = true → OkA1 g A n env a ys _ (.For _ (.BinOp l op r q) bd [] p)) (andL (andL h)) fun hp => ?_
  have h1 := andR (andL h)
  replace h := andR h
  revert hp
  refine onSub_el (P := fun r => plainR (.BinOp l .Add r q) = true → OkA1 g A n env a ys _ (.For _ (.BinOp l .Add r q) bd [] p)) h fun v sl q' h => onSlice_el (P := fun sl => plainR (.BinOp l .Add (.Subscript v sl q') q) = true → OkA1 g A n env a ys _ (.For _ (.BinOp l .Add (.Subscript v sl q') q) bd [] p)) h fun lo hi st q'' h =>
    none_el (P := fun st => plainR (.BinOp l .Add (.Subscript v (.Slice lo hi st q'') q') q) = true → OkA1 g A n env a ys _ (.For _ (.BinOp l .Add (.Subscript v (.Slice lo hi st q'') q') q) bd [] p)) (andL (andL (andL h))) fun hp => ?_
  intro c AL O EO CO ρ K σ s hρ I hh
  have FF : Fm g n sc env A c := ⟨F.S, O, F.T, EO⟩
  refine for_list (gSS TO H b _ _ _ _ F hb) xN xk hp O EO CO hρ (wpAny_BinOp (wpAny_mono (gX TO H e0 _ _ _ _ _ FF h1 ρ hρ _ _ σ s I hh) (fun v s₁ h₁ => ?_) fun Ω Ω x => x))
  obtain ⟨u, σ₁, r, I₁, e71, j, hlim, hj, q⟩ := h₁
  refine wpAny_mono (sliceG (gX TO H (.loc y) _ _ _ _ _ FF (andR (andL (andL h)))) (part_ok (gX TO H .absent) FF (andR (andL h))) (part_ok (gX TO H (.int i)) FF (andR h)) hρ I₁ (P := fun t u v σ' => t = .ref a ∧ u = .none ∧ v = .int i ∧ σ' = σ₁) ⟨_, e71, rfl, rfl, rfl, rfl⟩
    (Q := PV g c fun v σ => sem2 .lcat u v (fun t σ => ListS t σ fun l xs => forL (fun ρ k σ => exs Φ b ρ k σ) x l xs K xs ρ σ) σ) fun v vl vu x xl xu σ s sl r r₂ r₃ I z hs => ?_) (fun v' s₂ h₂ => ?_) fun Ω Ω x => x
  · obtain ⟨rfl, rfl, rfl, rfl⟩ := z
    cases r
    obtain ⟨vs, hL, rv⟩ := AL
    have hL' := I.fr.lst hL
    exact tail_of hL'.typeIs list_getitem_lookup (op_sliceL I hL' rv hlim r₂ r₃ rfl hj hs q)
  · obtain ⟨w, σ₂, r', I₂, q'⟩ := h₂
    exact op_lcat I₂ r r' q'
omit F in
theorem gS (x : S) : GS g t Φ n x :=
  @S.rec (GS g t Φ n) (GSS g t Φ n) (fun Ω Ω => s_assign TO H) (fun Ω Ω Ω => s_setA TO H) (fun Ω Ω Ω => s_setI TO H) (fun Ω Ω Ω => s_setD TO H) (fun Ω Ω Ω Ω => s_setS TO H) (fun Ω Ω Ω Ω => s_unp TO H) (fun Ω Ω Ω => s_augN TO H) (fun Ω Ω Ω Ω => s_augA TO H) (fun Ω => s_expr TO H) (fun Ω Ω Ω i j => s_ite TO H i j) (fun Ω Ω i => s_while TO H i) (fun Ω Ω Ω i => s_for TO H i) (fun Ω Ω Ω Ω i => s_forR TO H i)
    (fun Ω => s_ret TO H) s_ret0 s_brk (s_raise TO) (fun Ω Ω i j => s_try TO i) s_bad s_nil (fun Ω Ω i j => s_cons i j) x
theorem sA_cons {st : S} {r : SS} {sem : Loc → Ks → AH → Prop} (k : ∀ xs, mSS g t sc r xs = true → OkA g A n env a ys sem xs) {l : List Stmt} (h : mSS g t sc (.cons st r) l = true) : OkA g A n env a ys (fun ρ K σ => ex Φ st ρ (Ks.nx K (fun ρ σ => sem ρ K σ)) σ) l :=
  onC_el h fun x r h => okA_cons (okA_S (gS TO H st _ _ _ _ F (andL h))) (k r (andR h))
theorem sA_for {R : SS} {e0 : X} {y x : Nat} {i : Int} {b : SS} {l : List Stmt} (h : mSS g t sc (.cons (.for x (.b .lcat e0 (.slice (.loc y) .absent (.int i))) b) R) l = true) : OkA g A n env a ys (fun ρ K σ => forA Φ e0 y a i ys x b ρ (Ks.nx K (fun ρ σ => exs Φ R ρ K σ)) σ) l :=
  onC_el h fun x r h => okA_cons (forA_ok TO H F (andL h)) (okA_SS (gSS TO H R _ _ _ _ F (andR h)))
noncomputable def lawS (Φ : SemF) (s1 s2 s3 s4 s5 s6 : S) (e0 : X) (y a : Nat) (i : Int) (ys : List AV) (x : Nat) (b R : SS) (ρ : Loc) (K : Ks) (σ : AH) : Prop :=
  exs Φ (.cons s1 (.cons s2 (.cons s3 (.cons s4 (.cons s5 (.cons s6 .nil)))))) ρ (Ks.nx K (fun ρ σ => forA Φ e0 y a i ys x b ρ (Ks.nx K (fun ρ σ => exs Φ R ρ K σ)) σ)) σ
theorem law_sound {s1 s2 s3 s4 s5 s6 : S} {R : SS} {e0 : X} {y x : Nat} {i : Int} {b : SS} {l : List Stmt} (h : mSS g t sc (.cons s1 (.cons s2 (.cons s3 (.cons s4 (.cons s5 (.cons s6 (.cons (.for x (.b .lcat e0 (.slice (.loc y) .absent (.int i))) b) R))))))) l = true) :
    OkA g A n env a ys (lawS Φ s1 s2 s3 s4 s5 s6 e0 y a i ys x b R) l :=
  sA_cons TO H F (fun Ω h => sA_cons TO H F (fun Ω h => sA_cons TO H F (fun Ω h => sA_cons TO H F (fun Ω h => sA_cons TO H F (fun Ω h => sA_cons TO H F (fun Ω h => sA_for TO H F h) h) h) h) h) h) h
end
inductive LawEnd (s₁ : Shared) (L : Addr) (f : Flow) (s' : Shared) : Prop | mk (hf : f = .ret (.bool true)) (m : Str → Option Value) (F : Fr s₁.heap L s'.heap m) (ho : s'.os = s₁.os) (hg : s'.gens = s₁.gens)
noncomputable abbrev endK : Ks := { next := fun Ω Ω => False, brk := fun Ω Ω => False, ret := fun v Ω => v = .bool true, exc := fun Ω Ω => False, raise := fun Ω => False }
theorem law_run {g : Gb} {sem : Loc → Ks → AH → Prop} {a : Nat} {ys : List AV} {s₁ : Shared} {L : Addr} {h₁ : Heap} {tk₁ : Nat} {m : Str → Option Value} {w : Obj} {qual pl : Str} {scope : Scope} {fa : Addr} {cd : Value} {cv : Option Value} {y : Nat} {body : List Stmt} {n : Nat} {E : Value → Shared → Prop}
    (S : Stat g s₁.heap) (AL : ArgL s₁.heap a ys) (OA : OkA g (callerA.deeper (envOfC qual scope L fa cd)) n (envOfC qual scope L fa cd) a ys sem body) (hn : n ≤ 100) (sk : scope.kind = .function) (hc : cellsFrom (L + 1) scope.names [] = [(pl, L + 1)])
    (F : Fr s₁.heap L h₁ m) (N : News s₁.heap L h₁ [(L + 1, w)]) (hd : w.data = .cell cv) (hy : y < g.nN) (ky : scope.names.lookup (g.nm y) = some .local) (my : m (g.nm y) = some (.ref a)) (q : sem (Loc.put (fun Ω => none) y (.ref a)) endK fun Ω => none) :
    wpAny (model g.prog g.w) (callerA.deeper (envOfC qual scope L fa cd)) (execs body (envOfC qual scope L fa cd)) (LawEnd s₁ L) E ⟨h₁, s₁.gens, s₁.drawn, tk₁, s₁.os⟩ := by
  let c : Cx := { base := s₁.heap, L := L, m := m, keep := [], s₀ := s₁, cells := [(L + 1, w)] }
  have bL : s₁.heap.get? L = none := get_ge F.above
  have lk : ∀ {x a}, (envOfC qual scope L fa cd).cells.lookup x = some a → x = pl ∧ a = L + 1 := fun {x a} h => by
    have h : (cellsFrom (L + 1) scope.names []).lookup x = some a := h
    rw [hc] at h
    by_cases e : x = pl
    · subst e
      rw [List.lookup_cons_self] at h
      exact ⟨rfl, (Option.some.inj h).symm⟩
    · rw [List.lookup_cons, beq_eq_false_iff_ne.mpr e] at h; cases h
  have I : Inv g c (fun Ω => none) ⟨h₁, s₁.gens, s₁.drawn, tk₁, s₁.os⟩ := ⟨fun Ω => 0, [(L + 1, w)], ⟨List.nodup_cons.mpr ⟨List.not_mem_nil, List.nodup_nil⟩, fun Ω Ω h => (nomatch h), fun Ω Ω Ω Ω Ω Ω h => (nomatch h), fun Ω Ω Ω h => (nomatch h)⟩, ⟨F, N, rfl, rfl, rfl⟩,
    fun q hq => ⟨⟨q.2, hq, .rfl⟩, fun o => o.elim (fun h => h rfl) fun ⟨_, _, _, h, _⟩ => (nomatch h)⟩⟩
  have CO : CellOk c (envOfC qual scope L fa cd) := ⟨fun x a Ω h => ⟨by rw [(lk h).2]; exact .head _, fun Ω h => (nomatch h)⟩, fun q hq => by rw [List.mem_singleton.mp hq]; exact ⟨_, hd⟩, fun x y a h k => (lk h).1.trans (lk k).1.symm, List.nodup_cons.mpr ⟨List.not_mem_nil, List.nodup_nil⟩,
    fun x a h => ⟨(L + 1, w), .head _, (lk h).2.symm⟩⟩
  have fr : FrOk c [envOfC qual scope L fa cd] := fun e he => by
    rw [List.mem_singleton.mp he]
    exact ⟨by rw [show (envOfC qual scope L fa cd).scope = scope from rfl, sk]; decide, L, rfl, bL, .inl rfl⟩
  have AO : AOk g (callerA.deeper (envOfC qual scope L fa cd)) c n := ⟨rfl, ⟨by show 302 + 2 * n ≤ 900; lia, by show 7 + 8 * n ≤ 9000; lia⟩, S, _, [], rfl, fr⟩
  have hρ : LocR g c (envOfC qual scope L fa cd) (Loc.put (fun Ω => none) y (.ref a)) := fun x v h => by
    unfold Loc.put at h
    by_cases e : x = y
    · rw [if_pos e] at h; subst e
      cases h
      exact ⟨hy, _, .ref a, .local ky my⟩
    · rw [if_neg e] at h; cases h
  refine wpAny_mono (OA c AL AO ⟨sk, rfl, rfl, rfl⟩ CO _ endK _ _ hρ I q) (fun fl s' h => ?_) fun v s' h => ?_
  · cases fl with
    | next => obtain ⟨_, _, _, _, _, _, _, z⟩ := h; exact z.elim
    | brk => obtain ⟨_, _, _, _, _, _, _, z⟩ := h; exact z.elim
    | cont => exact h.elim
    | ret v =>
      obtain ⟨c', N, x, σ', r, I', e⟩ := h
      obtain ⟨D, led, _, At, _⟩ := I'
      cases e; cases r
      have F' := At.fr
      rw [show c'.base = s₁.heap from N.base, show c'.L = L from N.L] at F'
      exact ⟨rfl, _, F', At.os.trans (congrArg Shared.os N.s₀), At.gens.trans (congrArg Shared.gens N.s₀)⟩
  · rcases h with ⟨_, _, _, _, _, T⟩ | ⟨_, _, R⟩
    · exact T.no.elim
    · obtain ⟨_, _, _, _, _, _, _, _, z, _⟩ := R; exact z.elim
end
section
set_option tactic.hygienic false
open PySem PySem.W
noncomputable def f_Thing_init : FI := ⟨[22, 0], [], (.cons (.setA (.loc 22) 0 (.loc 0)) (.cons (.setA (.loc 22) 1 (.int 0)) (.cons (.setA (.loc 22) 2 .none) (.cons (.setA (.loc 22) 3 (.list .nil)) (.cons (.setA (.loc 22) 4 (.bool false)) (.cons (.setA (.loc 22) 5 (.bool false)) .nil))))))⟩
noncomputable def f_Scalar_init : FI := ⟨[22, 0, 6], [], (.cons (.expr (.icall 38 0 (.cons (.loc 22) (.cons (.loc 0) .nil)))) (.cons (.setA (.loc 22) 6 (.loc 6)) (.cons (.setA (.loc 22) 7 .none) .nil)))⟩
noncomputable def f_Array_init : FI := ⟨[22, 0], [], (.cons (.expr (.icall 38 0 (.cons (.loc 22) (.cons (.loc 0) .nil)))) (.cons (.setA (.loc 22) 8 (.list .nil)) (.cons (.setA (.loc 22) 9 .none) .nil)))⟩
noncomputable def f_Ref_init : FI := ⟨[22, 10, 11], [.bool false], (.cons (.setA (.loc 22) 10 (.loc 10)) (.cons (.setA (.loc 22) 11 (.loc 11)) .nil))⟩
noncomputable def f_Heap_init : FI := ⟨[22, 12], [], (.cons (.setA (.loc 22) 12 (.loc 12)) (.cons (.setA (.loc 22) 13 (.int 0)) (.cons (.setA (.loc 22) 14 (.list .nil)) .nil)))⟩
noncomputable def f_Heap_next_number : FI := ⟨[22], [], (.cons (.augA (.loc 22) 13 .add (.int 1)) (.cons (.ret (.u (.attr 13) (.loc 22))) .nil))⟩
noncomputable def f_Heap_new_scalar : FI := ⟨[22, 6], [], (.cons (.ret (.cls 59 1 (.cons (.mcall (.loc 22) 218 5 23 .nil) (.cons (.loc 6) .nil)))) .nil)⟩
noncomputable def f_Heap_new_array : FI := ⟨[22], [], (.cons (.ret (.cls 78 2 (.cons (.mcall (.loc 22) 218 5 23 .nil) .nil))) .nil)⟩
noncomputable def f_value_of : FI := ⟨[24], [], (.cons (.ite (.not (.e (.u (.isI 59) (.loc 24)))) (.cons (.ret (.loc 24)) .nil) .nil) (.cons (.ite (.e (.u .isNN (.u (.attr 7) (.loc 24)))) (.cons .bad .nil) .nil) (.cons (.ret (.u (.attr 6) (.loc 24))) .nil)))⟩
noncomputable def f_fresh_scalars : FI := ⟨[25, 26], [], (.cons (.ret (.comp (.mcall (.loc 25) 559 45 27 (.cons (.loc 6) .nil)) 6 [25] (.loc 26))) .nil)⟩
noncomputable def f_drop_member : FI := ⟨[25, 28], [], (.cons (.ite (.e (.u .isN (.loc 28))) (.cons (.ret .none) .nil) .nil) (.cons (.assign 6 (.call 8 (.cons (.loc 28) .nil))) (.cons (.expr (.mcall (.loc 25) 559 46 29 (.cons (.loc 28) .nil))) (.cons (.ret (.loc 6)) .nil))))⟩
noncomputable def f_drop_members : FI := ⟨[25, 30], [], (.cons (.ret (.comp (.call 10 (.cons (.loc 25) (.cons (.loc 28) .nil))) 28 [25] (.loc 30))) .nil)⟩
noncomputable def f_push_values : FI := ⟨[25, 31, 26], [], (.cons (.expr (.m1 .extend (.u (.attr 8) (.loc 31)) (.call 9 (.cons (.loc 25) (.cons (.loc 26) .nil))))) (.cons (.ret (.u .len (.u (.attr 8) (.loc 31)))) .nil))⟩
noncomputable def f_unshift_values : FI := ⟨[25, 31, 26], [], (.cons (.setS (.u (.attr 8) (.loc 31)) (.int 0) (.int 0) (.call 9 (.cons (.loc 25) (.cons (.loc 26) .nil)))) (.cons (.ret (.u .len (.u (.attr 8) (.loc 31)))) .nil))⟩
noncomputable def f_pop_value : FI := ⟨[25, 31], [], (.cons (.ite (.e (.u .eqNil (.u (.attr 8) (.loc 31)))) (.cons (.ret .none) .nil) .nil) (.cons (.ret (.call 10 (.cons (.loc 25) (.cons (.pop (.u (.attr 8) (.loc 31))) .nil)))) .nil))⟩
noncomputable def f_shift_value : FI := ⟨[25, 31], [], (.cons (.ite (.e (.u .eqNil (.u (.attr 8) (.loc 31)))) (.cons (.ret .none) .nil) .nil) (.cons (.ret (.call 10 (.cons (.loc 25) (.cons (.m1 .popAt (.u (.attr 8) (.loc 31)) (.int 0)) .nil)))) .nil))⟩
noncomputable def f_splice_place : FI := ⟨[32, 33], [], (.cons (.ite (.e (.b (.cmp .lt) (.loc 33) (.int 0))) (.cons (.augN 33 .add (.loc 32)) (.cons (.ite (.e (.b (.cmp .lt) (.loc 33) (.int 0))) (.cons .raise .nil) .nil) .nil)) .nil) (.cons (.ret (.b .min (.loc 33) (.loc 32))) .nil))⟩
noncomputable def f_splice_count : FI := ⟨[32, 34, 35], [], (.cons (.assign 36 (.b (.ar .sub) (.loc 32) (.loc 34))) (.cons (.ite (.e (.u .isN (.loc 35))) (.cons (.ret (.loc 36)) .nil) .nil) (.cons (.ite (.e (.b (.cmp .lt) (.loc 35) (.int 0))) (.cons (.ret (.b .max (.b (.ar .add) (.loc 36) (.loc 35)) (.int 0))) .nil) .nil) (.cons (.ret (.b .min (.loc 35) (.loc 36))) .nil))))⟩
noncomputable def f_splice_values : FI := ⟨[25, 31, 33, 35, 26], [], (.cons (.assign 32 (.u .len (.u (.attr 8) (.loc 31)))) (.cons (.assign 34 (.call 16 (.cons (.loc 32) (.cons (.loc 33) .nil)))) (.cons (.assign 1 (.call 17 (.cons (.loc 32) (.cons (.loc 34) (.cons (.loc 35) .nil))))) (.cons (.assign 37 (.slice (.u (.attr 8) (.loc 31)) (.loc 34) (.b (.ar .add) (.loc 34) (.loc 1)))) (.cons (.setS (.u (.attr 8) (.loc 31)) (.loc 34) (.b (.ar .add) (.loc 34) (.loc 1)) (.call 9 (.cons (.loc 25) (.cons (.loc 26) .nil)))) (.cons (.ret (.call 11 (.cons (.loc 25) (.cons (.loc 37) .nil)))) .nil))))))⟩
noncomputable def f_element_place : FI := ⟨[31, 38], [], (.cons (.ite (.e (.b (.cmp .lt) (.loc 38) (.int 0))) (.cons (.augN 38 .add (.u .len (.u (.attr 8) (.loc 31)))) (.cons (.ite (.e (.b (.cmp .lt) (.loc 38) (.int 0))) (.cons (.ret (.u .neg (.int 1))) .nil) .nil) .nil)) .nil) (.cons (.ret (.loc 38)) .nil))⟩
noncomputable def f_has_element : FI := ⟨[31, 38], [], (.cons (.assign 39 (.call 19 (.cons (.loc 31) (.cons (.loc 38) .nil)))) (.cons (.ret (.and2 (.chain .le .lt (.int 0) (.loc 39) (.u .len (.u (.attr 8) (.loc 31)))) (.u .isNN (.b .idx (.u (.attr 8) (.loc 31)) (.loc 39))))) .nil))⟩
noncomputable def f_element_value : FI := ⟨[31, 38], [], (.cons (.ite (.not (.e (.call 20 (.cons (.loc 31) (.cons (.loc 38) .nil))))) (.cons (.ret .none) .nil) .nil) (.cons (.ret (.call 8 (.cons (.b .idx (.u (.attr 8) (.loc 31)) (.call 19 (.cons (.loc 31) (.cons (.loc 38) .nil)))) .nil))) .nil))⟩
noncomputable def f_element_scalar : FI := ⟨[25, 31, 38, 40], [], (.cons (.assign 39 (.call 19 (.cons (.loc 31) (.cons (.loc 38) .nil)))) (.cons (.ite (.e (.b (.cmp .lt) (.loc 39) (.int 0))) (.cons .raise .nil) .nil) (.cons (.ite (.e (.b (.cmp .ge) (.loc 39) (.u .len (.u (.attr 8) (.loc 31))))) (.cons (.expr (.call 24 (.cons (.loc 25) (.cons (.loc 31) (.cons (.b (.ar .add) (.loc 39) (.int 1)) (.cons (.loc 40) .nil)))))) .nil) .nil) (.cons (.ite (.e (.u .isN (.b .idx (.u (.attr 8) (.loc 31)) (.loc 39)))) (.cons (.setI (.u (.attr 8) (.loc 31)) (.loc 39) (.mcall (.loc 25) 559 45 27 (.cons .none .nil))) .nil) .nil) (.cons (.ret (.b .idx (.u (.attr 8) (.loc 31)) (.loc 39))) .nil)))))⟩
noncomputable def f_delete_element : FI := ⟨[25, 31, 38], [], (.cons (.ite (.not (.e (.call 20 (.cons (.loc 31) (.cons (.loc 38) .nil))))) (.cons (.ret .none) .nil) .nil) (.cons (.assign 39 (.call 19 (.cons (.loc 31) (.cons (.loc 38) .nil)))) (.cons (.assign 28 (.b .idx (.u (.attr 8) (.loc 31)) (.loc 39))) (.cons (.setI (.u (.attr 8) (.loc 31)) (.loc 39) .none) (.cons (.ite (.e (.b (.cmp .eq) (.loc 39) (.b (.ar .sub) (.u .len (.u (.attr 8) (.loc 31))) (.int 1)))) (.cons (.while (.ands (.cons (.e (.u .neNil (.u (.attr 8) (.loc 31)))) (.cons (.e (.u .isN (.b .idx (.u (.attr 8) (.loc 31)) (.u .neg (.int 1))))) .nil))) (.cons (.expr (.pop (.u (.attr 8) (.loc 31)))) .nil)) .nil) .nil) (.cons (.ret (.call 10 (.cons (.loc 25) (.cons (.loc 28) .nil)))) .nil))))))⟩
noncomputable def f_resize_array : FI := ⟨[25, 31, 32, 40], [], (.cons (.assign 32 (.b .max (.loc 32) (.int 0))) (.cons (.ite (.e (.b (.cmp .gt) (.loc 32) (.loc 40))) (.cons .raise .nil) .nil) (.cons (.ite (.e (.b (.cmp .lt) (.loc 32) (.u .len (.u (.attr 8) (.loc 31))))) (.cons (.assign 41 (.slice (.u (.attr 8) (.loc 31)) (.loc 32) .absent)) (.cons (.setS (.u (.attr 8) (.loc 31)) (.loc 32) .absent (.list .nil)) (.cons (.expr (.call 11 (.cons (.loc 25) (.cons (.loc 41) .nil)))) .nil))) (.cons (.expr (.m1 .extend (.u (.attr 8) (.loc 31)) (.b .lmul (.list (.cons .none .nil)) (.b (.ar .sub) (.loc 32) (.u .len (.u (.attr 8) (.loc 31))))))) .nil)) .nil)))⟩
noncomputable def f_clear_array : FI := ⟨[25, 31], [], (.cons (.assign 41 (.u (.attr 8) (.loc 31))) (.cons (.setA (.loc 31) 8 (.list .nil)) (.cons (.expr (.call 11 (.cons (.loc 25) (.cons (.loc 41) .nil)))) .nil)))⟩
noncomputable def f_fill_array : FI := ⟨[25, 31, 26], [], (.cons (.assign 42 (.call 9 (.cons (.loc 25) (.cons (.loc 26) .nil)))) (.cons (.expr (.call 25 (.cons (.loc 25) (.cons (.loc 31) .nil)))) (.cons (.setA (.loc 31) 8 (.loc 42)) .nil)))⟩
noncomputable def f_array_values : FI := ⟨[31], [], (.cons (.ret (.comp (.call 8 (.cons (.loc 28) .nil)) 28 [] (.u (.attr 8) (.loc 31)))) .nil)⟩
noncomputable def f_array_scalars : FI := ⟨[25, 31], [], (.cons (.forR 39 (.int 0) (.u .len (.u (.attr 8) (.loc 31))) (.cons (.ite (.e (.u .isN (.b .idx (.u (.attr 8) (.loc 31)) (.loc 39)))) (.cons (.setI (.u (.attr 8) (.loc 31)) (.loc 39) (.mcall (.loc 25) 559 45 27 (.cons .none .nil))) .nil) .nil) .nil)) (.cons (.ret (.u .toL (.u (.attr 8) (.loc 31)))) .nil))⟩
noncomputable def f_slice_values : FI := ⟨[31, 43], [], (.cons (.ret (.comp (.call 21 (.cons (.loc 31) (.cons (.loc 38) .nil))) 38 [31] (.loc 43))) .nil)⟩
noncomputable def f_slice_scalars : FI := ⟨[25, 31, 43, 40], [], (.cons (.ret (.comp (.call 22 (.cons (.loc 25) (.cons (.loc 31) (.cons (.loc 38) (.cons (.loc 40) .nil))))) 38 [31, 25, 40] (.loc 43))) .nil)⟩
noncomputable def f_delete_slice : FI := ⟨[25, 31, 43], [], (.cons (.ret (.comp (.call 23 (.cons (.loc 25) (.cons (.loc 31) (.cons (.loc 38) .nil)))) 38 [31, 25] (.loc 43))) .nil)⟩
noncomputable def f_list_slice : FI := ⟨[30, 43], [], (.cons (.ite (.e (.u .eqNil (.loc 30))) (.cons (.ret (.list .nil)) .nil) .nil) (.cons (.assign 44 (.list .nil)) (.cons (.for 38 (.loc 43) (.cons (.assign 39 (.ite (.e (.b (.cmp .lt) (.loc 38) (.int 0))) (.b (.ar .add) (.loc 38) (.u .len (.loc 30))) (.loc 38))) (.cons (.expr (.m1 .append (.loc 44) (.ite (.tch .le .lt (.int 0) (.loc 39) (.u .len (.loc 30))) (.b .idx (.loc 30) (.loc 39)) .none))) .nil))) (.cons (.ret (.loc 44)) .nil))))⟩
noncomputable def f_reversed_list : FI := ⟨[30], [], (.cons (.ret (.u .rev (.loc 30))) .nil)⟩
noncomputable def f_repeated_list : FI := ⟨[30, 1, 40], [], (.cons (.ite (.ors (.cons (.e (.b (.cmp .lt) (.loc 1) (.int 1))) (.cons (.e (.u .eqNil (.loc 30))) .nil))) (.cons (.ret (.list .nil)) .nil) .nil) (.cons (.ite (.e (.b (.cmp .gt) (.b (.ar .mul) (.loc 1) (.u .len (.loc 30))) (.loc 40))) (.cons .raise .nil) .nil) (.cons (.ret (.b .lmul (.loc 30) (.loc 1))) .nil)))⟩
noncomputable def f_last_member : FI := ⟨[30], [], (.cons (.ite (.e (.u .eqNil (.loc 30))) (.cons (.ret .none) .nil) .nil) (.cons (.ret (.call 8 (.cons (.b .idx (.loc 30) (.u .neg (.int 1))) .nil))) .nil))⟩
noncomputable def f_plain_values : FI := ⟨[30], [], (.cons (.ret (.comp (.call 8 (.cons (.loc 28) .nil)) 28 [] (.loc 30))) .nil)⟩
noncomputable def f_held_by : FI := ⟨[45], [], (.cons (.ite (.e (.u (.isI 78) (.loc 45))) (.cons .bad .nil) (.cons (.ite (.e (.u (.isI 97) (.loc 45))) (.cons .bad .nil) (.cons (.ite (.e (.u (.isI 116) (.loc 45))) (.cons .bad .nil) (.cons (.ite (.e (.u (.isI 135) (.loc 45))) (.cons .bad .nil) (.cons (.assign 46 (.list .nil)) .nil)) .nil)) .nil)) .nil)) (.cons (.ret (.compE (.loc 46))) .nil))⟩
noncomputable def f_in_order : FI := ⟨[47], [], (.cons (.assign 44 .dict0) (.cons (.for 45 (.loc 47) (.cons (.ite (.ands (.cons (.e (.b (.cmp .eq) (.u (.attr 1) (.loc 45)) (.int 0))) (.cons (.not (.e (.u (.attr 5) (.loc 45)))) .nil))) (.cons (.setD (.loc 44) (.u (.attr 0) (.loc 45)) (.loc 45)) .nil) .nil) .nil)) (.cons (.ret (.comp (.b .didx (.loc 44) (.loc 0)) 0 [44] (.u .sorted (.loc 44)))) .nil)))⟩
noncomputable def f_Counter_init : FI := ⟨[22, 15, 16], [], (.cons (.setA (.loc 22) 15 (.loc 15)) (.cons (.setA (.loc 22) 16 (.loc 16)) (.cons (.setA (.loc 22) 17 .dict0) .nil)))⟩
noncomputable def f_Counter_hold : FI := ⟨[22, 45], [], (.cons (.augA (.loc 45) 1 .add (.int 1)) .nil)⟩
noncomputable def f_Counter_let_go : FI := ⟨[22, 45], [], (.cons (.augA (.loc 45) 1 .sub (.int 1)) (.cons (.ite (.e (.b (.cmp .eq) (.u (.attr 1) (.loc 45)) (.int 0))) (.cons (.expr (.m1 .append (.u (.attr 14) (.u (.attr 15) (.loc 22))) (.loc 45))) .nil) .nil) .nil))⟩
noncomputable def f_Counter_take : FI := ⟨[22, 6], [], (.cons (.ite (.not (.e (.u (.isI 155) (.loc 6)))) (.cons (.ret (.loc 6)) .nil) .nil) (.cons (.expr (.mcall (.loc 22) 559 40 48 (.cons (.u (.attr 10) (.loc 6)) .nil))) (.cons (.ite (.e (.u (.attr 11) (.loc 6))) (.cons .bad .nil) .nil) (.cons (.ret (.loc 6)) .nil))))⟩
noncomputable def f_Counter_put_off : FI := ⟨[22, 49, 6], [], (.cons (.ite (.not (.e (.u (.isI 155) (.loc 6)))) (.cons .ret0 .nil) .nil) (.cons (.ite (.e (.u (.attr 11) (.loc 6))) (.cons .bad .nil) (.cons (.expr (.mcall (.loc 22) 559 41 50 (.cons (.u (.attr 10) (.loc 6)) .nil))) .nil)) .nil))⟩
noncomputable def f_Counter_store : FI := ⟨[22, 49, 6], [], (.cons (.expr (.m1 .dpop (.u (.attr 17) (.loc 22)) (.u (.attr 0) (.loc 49)))) (.cons (.ite (.e (.u .isNN (.u (.attr 7) (.loc 49)))) (.cons .bad (.cons .bad .nil)) .nil) (.cons (.assign 52 (.u (.attr 6) (.loc 49))) (.cons (.setA (.loc 49) 6 (.mcall (.loc 22) 559 42 53 (.cons (.loc 6) .nil))) (.cons (.expr (.mcall (.loc 22) 559 43 51 (.cons (.loc 49) (.cons (.loc 52) .nil)))) .nil)))))⟩
noncomputable def f_Counter_fresh : FI := ⟨[22, 6], [], (.cons (.assign 49 (.mcall (.u (.attr 15) (.loc 22)) 218 6 54 (.cons (.mcall (.loc 22) 559 42 53 (.cons (.loc 6) .nil)) .nil))) (.cons (.setA (.loc 49) 1 (.int 1)) (.cons (.ret (.loc 49)) .nil)))⟩
noncomputable def f_Counter_drop : FI := ⟨[22, 49], [], (.cons (.expr (.mcall (.loc 22) 559 41 50 (.cons (.loc 49) .nil))) .nil)⟩
noncomputable def f_Counter_settle : FI := ⟨[22, 55], [], (.cons (.while (.e (.b (.cmp .gt) (.u .len (.u (.attr 14) (.u (.attr 15) (.loc 22)))) (.loc 55))) (.cons (.assign 56 (.call 38 (.cons (.slice (.u (.attr 14) (.u (.attr 15) (.loc 22))) (.loc 55) .absent) .nil))) (.cons (.setA (.u (.attr 15) (.loc 22)) 14 (.slice (.u (.attr 14) (.u (.attr 15) (.loc 22))) .absent (.loc 55))) (.cons (.for 45 (.loc 56) (.cons (.expr (.mcall (.loc 22) 559 48 58 (.cons (.loc 45) .nil))) .nil)) (.cons (.for 45 (.loc 56) (.cons (.ite (.ands (.cons (.e (.b (.cmp .eq) (.u (.attr 1) (.loc 45)) (.int 0))) (.cons (.not (.e (.u (.attr 5) (.loc 45)))) .nil))) (.cons (.expr (.mcall (.loc 22) 559 49 57 (.cons (.loc 45) .nil))) .nil) .nil) .nil)) .nil))))) .nil)⟩
noncomputable def f_Counter_finish : FI := ⟨[22, 45], [], (.cons (.ite (.ors (.cons (.e (.b (.cmp .ne) (.u (.attr 1) (.loc 45)) (.int 0))) (.cons (.e (.u .isN (.u (.attr 2) (.loc 45)))) (.cons (.e (.u (.attr 4) (.loc 45))) (.cons (.e (.u .isN (.u (.attr 16) (.loc 22)))) .nil))))) (.cons .ret0 .nil) .nil) (.cons .bad (.cons .bad (.cons .bad (.cons .bad .nil)))))⟩
noncomputable def f_Counter_free : FI := ⟨[22, 45], [], (.cons (.setA (.loc 45) 5 (.bool true)) (.cons (.for 49 (.u (.attr 3) (.loc 45)) (.cons (.setA (.loc 49) 6 .none) .nil)) (.cons (.setA (.loc 45) 3 (.list .nil)) (.cons (.ite (.e (.u (.isI 59) (.loc 45))) (.cons (.expr (.m1 .dpop (.u (.attr 17) (.loc 22)) (.u (.attr 0) (.loc 45)))) (.cons (.assign 52 (.u (.attr 6) (.loc 45))) (.cons (.setA (.loc 45) 6 .none) (.cons (.expr (.mcall (.loc 22) 559 43 51 (.cons (.loc 45) (.cons (.loc 52) .nil)))) .nil)))) .nil) (.cons (.assign 41 (.call 37 (.cons (.loc 45) .nil))) (.cons (.expr (.call 68 (.cons (.loc 45) .nil))) (.cons (.for 59 (.loc 41) (.cons (.expr (.mcall (.loc 22) 559 41 50 (.cons (.loc 59) .nil))) .nil)) .nil)))))))⟩
noncomputable def f_Limits_init : FI := ⟨[22, 18, 19, 20, 21, 8], [.int 64, .int 50, .int 1000000, .int 100000, .int 10000], (.cons (.setA (.loc 22) 18 (.loc 18)) (.cons (.setA (.loc 22) 19 (.loc 19)) (.cons (.setA (.loc 22) 20 (.loc 20)) (.cons (.setA (.loc 22) 21 (.loc 21)) (.cons (.setA (.loc 22) 8 (.loc 8)) .nil)))))⟩
noncomputable def f_law_told : FI := ⟨[6], [], (.cons (.ret (.ite (.e (.u (.isI 155) (.loc 6))) (.tup (.cons (.str (.ofString "ref")) (.cons (.u (.attr 0) (.u (.attr 10) (.loc 6))) .nil))) (.loc 6))) .nil)⟩
noncomputable def f_law_all : FI := ⟨[26], [], (.cons (.ret (.comp (.call 51 (.cons (.loc 6) .nil)) 6 [] (.loc 26))) .nil)⟩
noncomputable def f_law_value : FI := ⟨[60, 47], [], (.cons (.assign 61 (.b (.ar .mod) (.loc 60) (.int 6))) (.cons (.ite (.e (.b (.cmp .lt) (.loc 61) (.int 2))) (.cons (.ret (.cls 155 3 (.cons (.b .idx (.loc 47) (.loc 61)) .nil))) .nil) .nil) (.cons (.ret (.b .idx (.list (.cons .none (.cons (.b (.ar .sub) (.b (.ar .mod) (.b (.ar .div) (.loc 60) (.int 6)) (.int 50)) (.int 20)) (.cons (.b .scat (.str (.ofString "ab")) (.b .smul (.str (.ofString "c")) (.b (.ar .mod) (.b (.ar .div) (.loc 60) (.int 6)) (.int 3)))) (.cons (.str (.ofString "")) .nil))))) (.b (.ar .sub) (.loc 61) (.int 2)))) .nil)))⟩
noncomputable def f_law_values : FI := ⟨[60, 47], [], (.cons (.ret (.compR (.call 53 (.cons (.b (.ar .div) (.loc 60) (.b (.ar .pow) (.int 7) (.loc 62))) (.cons (.loc 47) .nil))) 62 [60, 47] (.b (.ar .mod) (.b (.ar .div) (.loc 60) (.int 5)) (.int 4)))) .nil)⟩
noncomputable def f_law_made : FI := ⟨[26], [], (.cons (.ret (.comp (.list (.cons (.call 51 (.cons (.loc 6) .nil)) .nil)) 6 [] (.loc 26))) .nil)⟩
noncomputable def f_law_of : FI := ⟨[63], [], (.cons (.ret (.ite (.e (.u .isN (.loc 63))) .none (.b .idx (.loc 63) (.int 0)))) .nil)⟩
noncomputable def f_law_at : FI := ⟨[64, 38], [], (.cons (.ret (.ite (.tch .le .lt (.u .neg (.u .len (.loc 64))) (.loc 38) (.u .len (.loc 64))) (.b .idx (.loc 64) (.loc 38)) .none)) .nil)⟩
noncomputable def f_law_opened : FI := ⟨[64, 38], [], (.cons (.assign 39 (.ite (.e (.b (.cmp .lt) (.loc 38) (.int 0))) (.b (.ar .add) (.loc 38) (.u .len (.loc 64))) (.loc 38))) (.cons (.ite (.ors (.cons (.e (.b (.cmp .lt) (.loc 39) (.int 0))) (.cons (.ands (.cons (.e (.b (.cmp .ge) (.loc 39) (.int 12))) (.cons (.e (.b (.cmp .ge) (.loc 39) (.u .len (.loc 64)))) .nil))) .nil))) (.cons (.ret .none) .nil) .nil) (.cons (.while (.e (.b (.cmp .le) (.u .len (.loc 64)) (.loc 39))) (.cons (.expr (.m1 .append (.loc 64) .none)) .nil)) (.cons (.ite (.e (.u .isN (.b .idx (.loc 64) (.loc 39)))) (.cons (.setI (.loc 64) (.loc 39) (.list (.cons .none .nil))) .nil) .nil) (.cons (.ret (.loc 39)) .nil)))))⟩
noncomputable def f_law_deleted : FI := ⟨[64, 38], [], (.cons (.assign 44 (.call 57 (.cons (.loc 64) (.cons (.loc 38) .nil)))) (.cons (.ite (.e (.u .isNN (.loc 44))) (.cons (.setI (.loc 64) (.loc 38) .none) (.cons (.ite (.e (.b .inl (.loc 38) (.tup (.cons (.u .neg (.int 1)) (.cons (.b (.ar .sub) (.u .len (.loc 64)) (.int 1)) .nil))))) (.cons (.while (.ands (.cons (.e (.u .neNil (.loc 64))) (.cons (.e (.u .isN (.b .idx (.loc 64) (.u .neg (.int 1))))) .nil))) (.cons (.expr (.pop (.loc 64))) .nil)) .nil) .nil) .nil)) .nil) (.cons (.ret (.call 56 (.cons (.loc 44) .nil))) .nil)))⟩
noncomputable def f_law_spliced : FI := ⟨[64, 33, 35, 27], [], (.cons (.assign 34 (.ite (.e (.b (.cmp .lt) (.loc 33) (.int 0))) (.b (.ar .add) (.loc 33) (.u .len (.loc 64))) (.b .min (.loc 33) (.u .len (.loc 64))))) (.cons (.ite (.e (.b (.cmp .lt) (.loc 34) (.int 0))) (.cons (.ret .none) .nil) .nil) (.cons (.assign 65 (.u .len (.loc 64))) (.cons (.ite (.e (.u .isNN (.loc 35))) (.cons (.assign 65 (.ite (.e (.b (.cmp .lt) (.loc 35) (.int 0))) (.b .max (.loc 34) (.b (.ar .add) (.loc 65) (.loc 35))) (.b .min (.loc 65) (.b (.ar .add) (.loc 34) (.loc 35))))) .nil) .nil) (.cons (.assign 37 (.comp (.call 56 (.cons (.loc 63) .nil)) 63 [] (.slice (.loc 64) (.loc 34) (.loc 65)))) (.cons (.setS (.loc 64) (.loc 34) (.loc 65) (.loc 27)) (.cons (.ret (.loc 37)) .nil)))))))⟩
noncomputable def f_law_slices : FI := ⟨[25, 31, 64, 61, 43, 27], [], (.cons (.ite (.e (.b (.cmp .eq) (.loc 61) (.int 9))) (.cons (.ret (.b .eqd (.call 52 (.cons (.call 29 (.cons (.loc 31) (.cons (.loc 43) .nil))) .nil)) (.comp (.call 56 (.cons (.call 57 (.cons (.loc 64) (.cons (.loc 38) .nil))) .nil)) 38 [64] (.loc 43)))) .nil) .nil) (.cons (.ite (.e (.b (.cmp .eq) (.loc 61) (.int 10))) (.cons (.ret (.b .eqd (.call 52 (.cons (.call 31 (.cons (.loc 25) (.cons (.loc 31) (.cons (.loc 43) .nil)))) .nil)) (.comp (.call 59 (.cons (.loc 64) (.cons (.loc 38) .nil))) 38 [64] (.loc 43)))) .nil) .nil) (.cons (.assign 17 (.list .nil)) (.cons (.for 38 (.loc 43) (.cons (.expr (.m1 .append (.loc 17) (.call 58 (.cons (.loc 64) (.cons (.loc 38) .nil))))) (.cons (.ite (.e (.u .isN (.b .idx (.loc 17) (.u .neg (.int 1))))) (.cons .brk .nil) .nil) .nil))) (.cons (.try (.cons (.assign 67 (.call 30 (.cons (.loc 25) (.cons (.loc 31) (.cons (.loc 43) (.cons (.int 12) .nil)))))) .nil) (.cons (.ret (.b .inl .none (.loc 17))) .nil)) (.cons (.ite (.ors (.cons (.e (.b .inl .none (.loc 17))) (.cons (.e (.b .ned (.comp (.u (.attr 0) (.loc 59)) 59 [] (.loc 67)) (.comp (.u (.attr 0) (.b .idx (.u (.attr 8) (.loc 31)) (.loc 39))) 39 [31] (.loc 17)))) .nil))) (.cons (.ret (.bool false)) .nil) .nil) (.cons (.forR 62 (.int 0) (.b .min (.u .len (.loc 17)) (.u .len (.loc 27))) (.cons (.expr (.mcall (.loc 25) 559 44 66 (.cons (.b .idx (.loc 67) (.loc 62)) (.cons (.b .idx (.loc 27) (.loc 62)) .nil)))) (.cons (.setI (.loc 64) (.b .idx (.loc 17) (.loc 62)) (.list (.cons (.call 51 (.cons (.b .idx (.loc 27) (.loc 62)) .nil)) .nil))) .nil))) (.cons (.ret (.bool true)) .nil))))))))⟩
noncomputable def f_law_element : FI := ⟨[25, 31, 64, 38, 6], [], (.cons (.assign 39 (.call 58 (.cons (.loc 64) (.cons (.loc 38) .nil)))) (.cons (.try (.cons (.assign 68 (.call 22 (.cons (.loc 25) (.cons (.loc 31) (.cons (.loc 38) (.cons (.int 12) .nil)))))) .nil) (.cons (.ret (.u .isN (.loc 39))) .nil)) (.cons (.ite (.ors (.cons (.e (.u .isN (.loc 39))) (.cons (.e (.b (.cmp .ne) (.u (.attr 0) (.loc 68)) (.u (.attr 0) (.b .idx (.u (.attr 8) (.loc 31)) (.loc 39))))) .nil))) (.cons (.ret (.bool false)) .nil) .nil) (.cons (.expr (.mcall (.loc 25) 559 44 66 (.cons (.loc 68) (.cons (.loc 6) .nil)))) (.cons (.setI (.loc 64) (.loc 39) (.list (.cons (.call 51 (.cons (.loc 6) .nil)) .nil))) (.cons (.ret (.bool true)) .nil))))))⟩
noncomputable def f_law_resized : FI := ⟨[25, 31, 64, 32], [], (.cons (.try (.cons (.expr (.call 24 (.cons (.loc 25) (.cons (.loc 31) (.cons (.loc 32) (.cons (.int 12) .nil)))))) .nil) (.cons (.ret (.b (.cmp .gt) (.loc 32) (.int 12))) .nil)) (.cons (.ite (.e (.b (.cmp .gt) (.loc 32) (.int 12))) (.cons (.ret (.bool false)) .nil) .nil) (.cons (.setS (.loc 64) .absent .absent (.slice (.b .lcat (.loc 64) (.b .lmul (.list (.cons .none .nil)) (.int 12))) .absent (.b .max (.loc 32) (.int 0)))) (.cons (.ret (.bool true)) .nil))))⟩
noncomputable def f_law_ends : FI := ⟨[25, 31, 64, 61, 27], [], (.cons (.ite (.e (.b (.cmp .eq) (.loc 61) (.int 0))) (.cons (.setS (.loc 64) (.u .len (.loc 64)) .absent (.call 55 (.cons (.loc 27) .nil))) (.cons (.ret (.b (.cmp .eq) (.call 12 (.cons (.loc 25) (.cons (.loc 31) (.cons (.loc 27) .nil)))) (.u .len (.loc 64)))) .nil)) .nil) (.cons (.ite (.e (.b (.cmp .eq) (.loc 61) (.int 1))) (.cons (.setS (.loc 64) .absent (.int 0) (.call 55 (.cons (.loc 27) .nil))) (.cons (.ret (.b (.cmp .eq) (.call 13 (.cons (.loc 25) (.cons (.loc 31) (.cons (.loc 27) .nil)))) (.u .len (.loc 64)))) .nil)) .nil) (.cons (.assign 69 (.ite (.e (.u .neNil (.loc 64))) (.call 56 (.cons (.m1 .popAt (.loc 64) (.ite (.e (.b (.cmp .eq) (.loc 61) (.int 2))) (.u .neg (.int 1)) (.int 0))) .nil)) .none)) (.cons (.ret (.b .eqd (.call 51 (.cons (.ite (.e (.b (.cmp .eq) (.loc 61) (.int 2))) (.call 14 (.cons (.loc 25) (.cons (.loc 31) .nil))) (.call 15 (.cons (.loc 25) (.cons (.loc 31) .nil)))) .nil)) (.loc 69))) .nil))))⟩
noncomputable def f_law_lists : FI := ⟨[31, 64, 38, 43], [], (.cons (.assign 70 (.comp (.call 56 (.cons (.loc 63) .nil)) 63 [] (.loc 64))) (.cons (.assign 26 (.call 27 (.cons (.loc 31) .nil))) (.cons (.ite (.ors (.cons (.e (.b .ned (.call 52 (.cons (.loc 26) .nil)) (.loc 70))) (.cons (.e (.b .ned (.call 52 (.cons (.call 33 (.cons (.loc 26) .nil)) .nil)) (.u .rev (.loc 70)))) (.cons (.e (.b .ned (.call 52 (.cons (.call 36 (.cons (.u (.attr 8) (.loc 31)) .nil)) .nil)) (.loc 70))) .nil)))) (.cons (.ret (.bool false)) .nil) .nil) (.cons (.assign 69 (.ite (.e (.u .neNil (.loc 64))) (.comp (.call 56 (.cons (.call 57 (.cons (.loc 64) (.cons (.loc 39) .nil))) .nil)) 39 [64] (.loc 43)) (.list .nil))) (.cons (.ite (.ors (.cons (.e (.b .ned (.call 52 (.cons (.call 32 (.cons (.loc 26) (.cons (.loc 43) .nil))) .nil)) (.loc 69))) (.cons (.e (.b .ned (.call 51 (.cons (.call 35 (.cons (.loc 26) .nil)) .nil)) (.b .idx (.ite (.e (.u .eqNil (.loc 70))) (.b .lcat (.loc 70) (.list (.cons .none .nil))) (.loc 70)) (.u .neg (.int 1))))) .nil))) (.cons (.ret (.bool false)) .nil) .nil) (.cons (.ite (.ors (.cons (.e (.u .neNil (.call 34 (.cons (.list .nil) (.cons (.b (.ar .pow) (.int 10) (.int 30)) (.cons (.int 30) .nil)))))) (.cons (.e (.u .neNil (.call 34 (.cons (.loc 26) (.cons (.u .neg (.b (.ar .pow) (.int 10) (.int 30))) (.cons (.int 30) .nil)))))) .nil))) (.cons (.ret (.bool false)) .nil) .nil) (.cons (.try (.cons (.ret (.b .eqd (.call 52 (.cons (.call 34 (.cons (.loc 26) (.cons (.loc 38) (.cons (.int 30) .nil)))) .nil)) (.b .lmul (.loc 70) (.b .max (.loc 38) (.int 0))))) .nil) (.cons (.ret (.b (.cmp .gt) (.b (.ar .mul) (.loc 38) (.u .len (.loc 70))) (.int 30))) .nil)) .nil)))))))⟩
noncomputable def f_law_done : FI := ⟨[25, 31, 64, 60, 47], [], (.cons (.unp 61 38 27 (.cons (.b (.ar .mod) (.loc 60) (.int 15)) (.cons (.b (.ar .sub) (.b (.ar .mod) (.b (.ar .div) (.loc 60) (.int 15)) (.int 19)) (.int 6)) (.cons (.call 54 (.cons (.b (.ar .div) (.loc 60) (.int 15)) (.cons (.loc 47) .nil))) .nil)))) (.cons (.assign 43 (.compR (.b (.ar .sub) (.b (.ar .mod) (.b (.ar .div) (.b (.ar .div) (.loc 60) (.int 15)) (.b (.ar .pow) (.int 5) (.loc 62))) (.int 17)) (.int 8)) 62 [60] (.b (.ar .mod) (.b (.ar .div) (.loc 60) (.int 60)) (.int 4)))) (.cons (.ite (.e (.b (.cmp .lt) (.loc 61) (.int 4))) (.cons (.ret (.call 64 (.cons (.loc 25) (.cons (.loc 31) (.cons (.loc 64) (.cons (.loc 61) (.cons (.loc 27) .nil))))))) .nil) .nil) (.cons (.ite (.e (.b (.cmp .lt) (.loc 61) (.int 6))) (.cons (.assign 35 (.b .idx (.list (.cons .none (.cons (.int 2) (.cons (.u .neg (.int 1)) (.cons (.int 0) (.cons (.int 1) (.cons (.u .neg (.int 3)) .nil))))))) (.b (.ar .mod) (.b (.ar .div) (.loc 60) (.int 300)) (.int 6)))) (.cons (.assign 69 (.call 60 (.cons (.loc 64) (.cons (.loc 38) (.cons (.loc 35) (.cons (.call 55 (.cons (.loc 27) .nil)) .nil)))))) (.cons (.try (.cons (.ret (.b .eqd (.call 52 (.cons (.call 18 (.cons (.loc 25) (.cons (.loc 31) (.cons (.loc 38) (.cons (.loc 35) (.cons (.loc 27) .nil)))))) .nil)) (.loc 69))) .nil) (.cons (.ret (.u .isN (.loc 69))) .nil)) .nil))) .nil) (.cons (.ite (.e (.b (.cmp .eq) (.loc 61) (.int 6))) (.cons (.ret (.call 62 (.cons (.loc 25) (.cons (.loc 31) (.cons (.loc 64) (.cons (.loc 38) (.cons (.call 53 (.cons (.b (.ar .div) (.loc 60) (.int 285)) (.cons (.loc 47) .nil))) .nil))))))) .nil) .nil) (.cons (.ite (.e (.b (.cmp .eq) (.loc 61) (.int 7))) (.cons (.ret (.b .eqd (.call 51 (.cons (.call 23 (.cons (.loc 25) (.cons (.loc 31) (.cons (.loc 38) .nil)))) .nil)) (.call 59 (.cons (.loc 64) (.cons (.loc 38) .nil))))) .nil) .nil) (.cons (.ite (.e (.b (.cmp .eq) (.loc 61) (.int 8))) (.cons (.ret (.call 63 (.cons (.loc 25) (.cons (.loc 31) (.cons (.loc 64) (.cons (.b (.ar .add) (.loc 38) (.int 3)) .nil)))))) .nil) .nil) (.cons (.ite (.e (.b (.cmp .lt) (.loc 61) (.int 12))) (.cons (.ret (.call 61 (.cons (.loc 25) (.cons (.loc 31) (.cons (.loc 64) (.cons (.loc 61) (.cons (.loc 43) (.cons (.loc 27) .nil)))))))) .nil) .nil) (.cons (.ite (.e (.b (.cmp .eq) (.loc 61) (.int 12))) (.cons (.setS (.loc 64) .absent .absent (.call 55 (.cons (.loc 27) .nil))) (.cons (.expr (.call 26 (.cons (.loc 25) (.cons (.loc 31) (.cons (.loc 27) .nil))))) (.cons (.ret (.bool true)) .nil))) .nil) (.cons (.ite (.ands (.cons (.e (.b (.cmp .eq) (.loc 61) (.int 13))) (.cons (.e (.b (.cmp .eq) (.b (.ar .mod) (.b (.ar .div) (.loc 60) (.int 15)) (.int 3)) (.int 0))) .nil))) (.cons (.setS (.loc 64) .absent .absent (.list .nil)) (.cons (.expr (.call 25 (.cons (.loc 25) (.cons (.loc 31) .nil)))) (.cons (.ret (.bool true)) .nil))) .nil) (.cons (.ite (.e (.b (.cmp .eq) (.loc 61) (.int 13))) (.cons (.setS (.loc 64) .absent .absent (.comp (.list (.cons (.call 56 (.cons (.loc 63) .nil)) .nil)) 63 [] (.loc 64))) (.cons (.ret (.b .eqd (.comp (.u (.attr 0) (.loc 59)) 59 [] (.call 28 (.cons (.loc 25) (.cons (.loc 31) .nil)))) (.comp (.u (.attr 0) (.loc 59)) 59 [] (.u (.attr 8) (.loc 31))))) .nil)) .nil) (.cons (.ret (.call 65 (.cons (.loc 31) (.cons (.loc 64) (.cons (.loc 38) (.cons (.loc 43) .nil)))))) .nil))))))))))))⟩
noncomputable def law1 : S := (.assign 15 (.cls 218 4 (.cons (.cls 581 50 .nil) .nil)))
noncomputable def law2 : S := (.assign 25 (.cls 559 39 (.cons (.loc 15) (.cons .none .nil))))
noncomputable def law3 : S := (.assign 47 (.list (.cons (.mcall (.loc 15) 218 6 54 (.cons (.int 5) .nil)) (.cons (.mcall (.loc 15) 218 7 73 .nil) .nil))))
noncomputable def law4 : S := (.assign 31 (.mcall (.loc 15) 218 7 73 .nil))
noncomputable def law5 : S := (.for 45 (.b .lcat (.loc 47) (.list (.cons (.loc 31) .nil))) (.cons (.expr (.mcall (.loc 25) 559 40 48 (.cons (.loc 45) .nil))) .nil))
noncomputable def law6 : S := (.assign 64 (.list .nil))
noncomputable def lawE : X := (.list (.cons (.int 150) .nil))
noncomputable def lawB : SS := (.cons (.ite (.ors (.cons (.not (.e (.call 66 (.cons (.loc 25) (.cons (.loc 31) (.cons (.loc 64) (.cons (.loc 60) (.cons (.loc 47) .nil)))))))) (.cons (.e (.b (.cmp .ne) (.u .len (.u (.attr 8) (.loc 31))) (.u .len (.loc 64)))) .nil))) (.cons (.ret (.bool false)) .nil) .nil) (.cons (.forR 39 (.b (.ar .sub) (.u .neg (.u .len (.loc 64))) (.int 1)) (.b (.ar .add) (.u .len (.loc 64)) (.int 1)) (.cons (.assign 63 (.call 57 (.cons (.loc 64) (.cons (.loc 39) .nil)))) (.cons (.ite (.ors (.cons (.e (.b .ned (.call 20 (.cons (.loc 31) (.cons (.loc 39) .nil))) (.u .isNN (.loc 63)))) (.cons (.e (.b .ned (.call 51 (.cons (.call 21 (.cons (.loc 31) (.cons (.loc 39) .nil))) .nil)) (.call 56 (.cons (.loc 63) .nil)))) .nil))) (.cons (.ret (.bool false)) .nil) .nil) .nil))) .nil))
noncomputable def lawR : SS := (.cons (.expr (.mcall (.loc 25) 559 47 72 (.cons (.int 0) .nil))) (.cons (.assign 70 (.comp (.call 56 (.cons (.loc 63) .nil)) 63 [] (.loc 64))) (.cons (.ret (.b .eqd (.comp (.b (.ar .sub) (.u (.attr 1) (.loc 45)) (.int 1)) 45 [] (.loc 47)) (.comp (.m1 .count (.loc 70) (.tup (.cons (.str (.ofString "ref")) (.cons (.u (.attr 0) (.loc 45)) .nil)))) 45 [70] (.loc 47)))) .nil)))
noncomputable def f_law : FI := ⟨[71], [], (.cons law1 (.cons law2 (.cons law3 (.cons law4 (.cons law5 (.cons law6 (.cons (.for 60 (.b .lcat lawE (.slice (.loc 71) .absent (.int 10))) lawB) lawR)))))))⟩
noncomputable def f_empty_out : FI := ⟨[45], [], (.cons (.ite (.e (.u (.isI 78) (.loc 45))) (.cons .bad .nil) (.cons (.ite (.e (.u (.isI 97) (.loc 45))) (.cons .bad (.cons .bad .nil)) (.cons (.ite (.e (.u (.isI 116) (.loc 45))) (.cons .bad .nil) (.cons (.ite (.e (.u (.isI 135) (.loc 45))) (.cons .bad (.cons .bad (.cons .bad (.cons .bad .nil)))) .nil) .nil)) .nil)) .nil)) .nil)⟩
noncomputable def fis : List FI := f_Thing_init :: f_Scalar_init :: f_Array_init :: f_Ref_init :: f_Heap_init :: f_Heap_next_number :: f_Heap_new_scalar :: f_Heap_new_array :: f_value_of :: f_fresh_scalars :: f_drop_member :: f_drop_members :: f_push_values :: f_unshift_values :: f_pop_value :: f_shift_value :: f_splice_place :: f_splice_count :: f_splice_values :: f_element_place :: f_has_element :: f_element_value :: f_element_scalar :: f_delete_element :: f_resize_array :: f_clear_array :: f_fill_array :: f_array_values :: f_array_scalars :: f_slice_values :: f_slice_scalars :: f_delete_slice :: f_list_slice :: f_reversed_list :: f_repeated_list :: f_last_member :: f_plain_values :: f_held_by :: f_in_order :: f_Counter_init :: f_Counter_hold :: f_Counter_let_go :: f_Counter_take :: f_Counter_put_off :: f_Counter_store :: f_Counter_fresh :: f_Counter_drop :: f_Counter_settle :: f_Counter_finish :: f_Counter_free :: f_Limits_init :: f_law_told :: f_law_all :: f_law_value :: f_law_values :: f_law_made :: f_law_of :: f_law_at :: f_law_opened :: f_law_deleted :: f_law_spliced :: f_law_slices :: f_law_element :: f_law_resized :: f_law_ends :: f_law_lists :: f_law_done :: f_law :: f_empty_out :: []
noncomputable def nms : List Str := .ofString "number" :: .ofString "count" :: .ofString "blessed" :: .ofString "weak" :: .ofString "is_destroyed" :: .ofString "is_freed" :: .ofString "value" :: .ofString "magic" :: .ofString "items" :: .ofString "tied" :: .ofString "target" :: .ofString "is_weak" :: .ofString "limits" :: .ofString "last" :: .ofString "zero" :: .ofString "heap" :: .ofString "destroy" :: .ofString "places" :: .ofString "width" :: .ofString "depth" :: .ofString "steps" :: .ofString "text" :: .ofString "self" :: .ofString "next_number" :: .ofString "x" :: .ofString "counter" :: .ofString "values" :: .ofString "fresh" :: .ofString "member" :: .ofString "drop" :: .ofString "members" :: .ofString "array" :: .ofString "size" :: .ofString "offset" :: .ofString "begin" :: .ofString "length" :: .ofString "rest" :: .ofString "taken" :: .ofString "index" :: .ofString "place" :: .ofString "most" :: .ofString "gone" :: .ofString "made" :: .ofString "indexes" :: .ofString "found" :: .ofString "thing" :: .ofString "held" :: .ofString "things" :: .ofString "hold" :: .ofString "scalar" :: .ofString "let_go" :: .ofString "put_off" :: .ofString "old" :: .ofString "take" :: .ofString "new_scalar" :: .ofString "start" :: .ofString "dying" :: .ofString "free" :: .ofString "finish" :: .ofString "one" :: .ofString "n" :: .ofString "way" :: .ofString "k" :: .ofString "cell" :: .ofString "cells" :: .ofString "end" :: .ofString "store" :: .ofString "elements" :: .ofString "element" :: .ofString "due" :: .ofString "plain" :: .ofString "script" :: .ofString "settle" :: .ofString "new_array" :: []
noncomputable def fas : List Nat := 35 :: 56 :: 75 :: 152 :: 173 :: 180 :: 187 :: 194 :: 229 :: 273 :: 280 :: 285 :: 292 :: 299 :: 306 :: 313 :: 320 :: 327 :: 334 :: 341 :: 348 :: 355 :: 362 :: 369 :: 376 :: 383 :: 390 :: 395 :: 402 :: 407 :: 412 :: 417 :: 424 :: 431 :: 438 :: 445 :: 450 :: 455 :: 467 :: 481 :: 488 :: 495 :: 509 :: 514 :: 521 :: 528 :: 535 :: 542 :: 549 :: 556 :: 578 :: 592 :: 597 :: 604 :: 609 :: 614 :: 621 :: 628 :: 635 :: 642 :: 647 :: 652 :: 659 :: 666 :: 673 :: 678 :: 683 :: 688 :: 462 :: []
noncomputable def globs : List (Str × Value) := (.ofString "value_of", .ref 229) :: (.ofString "fresh_scalars", .ref 273) :: (.ofString "drop_member", .ref 280) :: (.ofString "drop_members", .ref 285) :: (.ofString "push_values", .ref 292) :: (.ofString "unshift_values", .ref 299) :: (.ofString "pop_value", .ref 306) :: (.ofString "shift_value", .ref 313) :: (.ofString "splice_place", .ref 320) :: (.ofString "splice_count", .ref 327) :: (.ofString "splice_values", .ref 334) :: (.ofString "element_place", .ref 341) :: (.ofString "has_element", .ref 348) :: (.ofString "element_value", .ref 355) :: (.ofString "element_scalar", .ref 362) :: (.ofString "delete_element", .ref 369) :: (.ofString "resize_array", .ref 376) :: (.ofString "clear_array", .ref 383) :: (.ofString "fill_array", .ref 390) :: (.ofString "array_values", .ref 395) :: (.ofString "array_scalars", .ref 402) :: (.ofString "slice_values", .ref 407) :: (.ofString "slice_scalars", .ref 412) :: (.ofString "delete_slice", .ref 417) :: (.ofString "list_slice", .ref 424) :: (.ofString "reversed_list", .ref 431) :: (.ofString "repeated_list", .ref 438) :: (.ofString "last_member", .ref 445) :: (.ofString "plain_values", .ref 450) :: (.ofString "held_by", .ref 455) :: (.ofString "in_order", .ref 467) :: (.ofString "_law_told", .ref 592) :: (.ofString "_law_all", .ref 597) :: (.ofString "_law_value", .ref 604) :: (.ofString "_law_values", .ref 609) :: (.ofString "_law_made", .ref 614) :: (.ofString "_law_of", .ref 621) :: (.ofString "_law_at", .ref 628) :: (.ofString "_law_opened", .ref 635) :: (.ofString "_law_deleted", .ref 642) :: (.ofString "_law_spliced", .ref 647) :: (.ofString "_law_slices", .ref 652) :: (.ofString "_law_element", .ref 659) :: (.ofString "_law_resized", .ref 666) :: (.ofString "_law_ends", .ref 673) :: (.ofString "_law_lists", .ref 678) :: (.ofString "_law_done", .ref 683) :: (.ofString "law", .ref 688) :: (.ofString "empty_out", .ref 462) :: (.ofString "Thing", .ref 38) :: (.ofString "Scalar", .ref 59) :: (.ofString "Array", .ref 78) :: (.ofString "Hash", .ref 97) :: (.ofString "Code", .ref 116) :: (.ofString "Glob", .ref 135) :: (.ofString "Ref", .ref 155) :: (.ofString "Heap", .ref 218) :: (.ofString "Counter", .ref 559) :: (.ofString "Limits", .ref 581) :: (.ofString "Die", .ref 266) :: (.ofString "len", .builtin "len") :: (.ofString "isinstance", .builtin "isinstance") :: (.ofString "sorted", .builtin "sorted") :: (.ofString "min", .builtin "min") :: (.ofString "max", .builtin "max") :: (.ofString "list", .type "list") :: (.ofString "range", .type "range") :: (.ofString "NO_ELEMENT", .str (.ofString "Modification of non-creatable array value attempted") 545) :: (.ofString "TOO_MANY", .str (.ofString "Out of memory!") 547) :: []
noncomputable def txts : List Value := .str (.ofString "Modification of non-creatable array value attempted") 545 :: .str (.ofString "Out of memory!") 547 :: []
noncomputable def tabs : Tabs := ⟨globs, [(59, 1), (78, 2), (155, 3), (218, 4), (559, 39), (581, 50)], [(38, 0)], (218, 5, 23) :: (218, 6, 54) :: (218, 7, 73) :: (559, 40, 48) :: (559, 41, 50) :: (559, 42, 53) :: (559, 43, 51) :: (559, 44, 66) :: (559, 45, 27) :: (559, 46, 29) :: (559, 47, 72) :: (559, 48, 58) :: (559, 49, 57) :: [], 8 :: 9 :: 10 :: 11 :: 12 :: 13 :: 14 :: 15 :: 16 :: 17 :: 18 :: 19 :: 20 :: 21 :: 22 :: 23 :: 24 :: 25 :: 26 :: 27 :: 28 :: 29 :: 30 :: 31 :: 32 :: 33 :: 34 :: 35 :: 36 :: 37 :: 38 :: 51 :: 52 :: 53 :: 54 :: 55 :: 56 :: 57 :: 58 :: 59 :: 60 :: 61 :: 62 :: 63 :: 64 :: 65 :: 66 :: 67 :: 68 :: [], [59, 78, 97, 116, 135, 155], txts⟩
noncomputable def insts : List Nat := [59, 78, 155, 218, 559, 581]
end
section
set_option tactic.hygienic false
open PySem PySem.W PySem.Calls PyProof.Rows
/-! what is asked of the written heap, as a test -/
noncomputable def statB (g : Gb) : Bool :=
  decide (g.nf ≤ g.nN) && decide ((List.range g.nN).map g.nm).Nodup &&
  g.cs.all (fun C => (List.range g.nf).all (fun f => findIn g.K (.ref C) (g.nm f) == some none) && plainGet g.K C "" && hasDictIn g.K C && findIn g.K (.ref C) "__setattr__" == some (some (.builtin "object.__setattr__")) && plainOver g.K C &&
    findIn g.K (.ref C) "__class__" == some (some (.builtin "object.__class__")) && mroIn g.K C (.type "object") == some true && g.ics.all (fun D => kitOne g.K (.ref C) (.ref D) == some (C == D))) &&
  specialIn g.K (.builtin "object.__class__") "__get__" == some (some (.builtin "getset_descriptor.__get__")) && takesIn g.K (.builtin "object.__class__") == some true &&
  g.ics.all (fun C => kitOne g.K (.type "NoneType") (.ref C) == some false && kitOne g.K (.type "int") (.ref C) == some false && kitOne g.K (.type "str") (.ref C) == some false && kitOne g.K (.type "bool") (.ref C) == some false)
theorem allB {α : Type} {l : List α} {p : α → Bool} (h : l.all p = true) : ∀ x ∈ l, p x = true := List.all_eq_true.mp h
theorem stat_of {g : Gb} {base : Heap} (X : g.K.In base) (T : TopRead g.p g.loose g.mg g.mb base) (h : statB g = true) : Stat g base := by
  have h4 := andL (andL (andL h))
  have hc : ∀ C ∈ g.cs, _ := allB (andR h4)
  have hi : ∀ C ∈ g.ics, _ := allB (andR h)
  have nd : ((List.range g.nN).map g.nm).Nodup := of_decide_eq_true (andR (andL h4))
  have e : ∀ i, i < g.nN → ((List.range g.nN).map g.nm)[i]? = some (g.nm i) := fun i hi => by rw [List.getElem?_map, List.getElem?_range hi]; rfl
  refine ⟨X, T, of_decide_eq_true (andL (andL h4)), fun i j hi hj q => ?_, fun C m f hf => beq_iff_eq.mp (allB (andL (andL (andL (andL (andL (andL (andL (hc C m)))))))) f (List.mem_range.mpr hf)), fun C m x => andR (andL (andL (andL (andL (andL (andL (hc C m))))))), fun C m => andR (andL (andL (andL (andL (andL (hc C m)))))),
    fun C m => beq_iff_eq.mp (andR (andL (andL (andL (andL (hc C m)))))), fun C m => andR (andL (andL (andL (hc C m)))), fun C m => beq_iff_eq.mp (andR (andL (andL (hc C m)))), beq_iff_eq.mp (andR (andL (andL h))), beq_iff_eq.mp (andR (andL h)), fun C m => beq_iff_eq.mp (andR (andL (hc C m))),
    fun D m C k => beq_iff_eq.mp (allB (andR (hc D m)) C k), fun C m => beq_iff_eq.mp (andL (andL (andL (hi C m)))), fun C m => beq_iff_eq.mp (andR (andL (andL (hi C m)))), fun C m => beq_iff_eq.mp (andR (andL (hi C m))), fun C m => beq_iff_eq.mp (andR (hi C m))⟩
  exact (List.getElem?_inj (by rw [List.length_map, List.length_range]; exact hi) nd).mp ((e i hi).trans ((congrArg some q).trans (e j hj).symm))
noncomputable def onVal (r : Option CFound) (p : Value → Bool) : Bool := match r with | some (.val v) => p v | _ => false
theorem onVal_el {r : Option CFound} {v : Value} (h : onVal r (fun u => u == v) = true) : r = some (.val v) := by
  unfold onVal at h
  split at h
  · rw [beq_iff_eq.mp h]
  · cases h
noncomputable def tabB (g : Gb) (t : Tabs) : Bool :=
  t.glob.all (fun p => !(p.1 == ("__debug__" : Str)) && (nsIn g.K mainGlobals p.1 == some (some p.2) || (nsIn g.K mainGlobals p.1 == some none && bootBuiltins p.1 == some p.2 && !(p.1 == ("__name__" : Str))))) &&
  exmOne g.K (.ref g.die) (.ref g.die) == some true && t.fns.all (fun f => keepIn g.K (.ref (g.fa f))) &&
  t.cls.all (fun p => g.cs.contains p.1 && keepIn g.K (.ref p.1) && makesIn g.K p.1 && findIn g.K (.ref p.1) "__init__" == some (some (.ref (g.fa p.2))) && typeIn g.K (.ref (g.fa p.2)) == some (.type "function")) &&
  t.icls.all (fun p => specialIn g.K (.ref p.1) "__getattribute__" == some (some (.builtin "type.__getattribute__")) && typeIn g.K (.ref p.1) == some (.type "type") && readsIn g.K p.1 (.type "type") && onVal (findCls g.K (.ref p.1) (.type "type") "__init__") (fun u => u == .ref (g.fa p.2)) && keepIn g.K (.ref (g.fa p.2))) &&
  t.meth.all (fun p => findIn g.K (.ref p.1) (g.nm p.2.2) == some (some (.ref (g.fa p.2.1))) && isFn g.K (.ref (g.fa p.2.1)) && keepIn g.K (.ref (g.fa p.2.1))) &&
  t.ics.all (fun C => g.ics.contains C) && (List.range g.nN).all (fun x => !(g.nm x == ("__debug__" : Str)) && !(g.nm x == ("__classdict__" : Str)))
theorem tab_of {g : Gb} {t : Tabs} (D : DieF g) (h : tabB g t = true) : TabOk g t :=
  have h6 := andL (andL h)
  have h5 := andL h6
  have h4 := andL h5
  have h3 := andL h4
  have h2 := andL h3
  have hg := allB (andL h2)
  have hc := allB (andR h4)
  have hi := allB (andR h5)
  have hm := allB (andR h6)
  have hn := allB (andR h)
  ⟨fun p m => ⟨notB (andL (hg p m)), (Bool.or_eq_true_iff.mp (andR (hg p m))).imp beq_iff_eq.mp fun h => ⟨beq_iff_eq.mp (andL (andL h)), beq_iff_eq.mp (andR (andL h)), beq_eq_false_iff_ne.mp (notB (andR h))⟩⟩, beq_iff_eq.mp (andR h2), D, allB (andR h3),
    fun p m => ⟨List.contains_iff_mem.mp (andL (andL (andL (andL (hc p m))))), andR (andL (andL (andL (hc p m)))), andR (andL (andL (hc p m))), beq_iff_eq.mp (andR (andL (hc p m))), beq_iff_eq.mp (andR (hc p m))⟩,
    fun p m => ⟨beq_iff_eq.mp (andL (andL (andL (andL (hi p m))))), beq_iff_eq.mp (andR (andL (andL (andL (hi p m))))), andR (andL (andL (hi p m))), onVal_el (andR (andL (hi p m))), andR (hi p m)⟩,
    fun p m => ⟨beq_iff_eq.mp (andL (andL (hm p m))), andR (andL (hm p m)), andR (hm p m)⟩, fun C m => List.contains_iff_mem.mp (allB (andR (andL h)) C m), fun x hx => notB (andL (hn x (List.mem_range.mpr hx))), fun x hx => notB (andR (hn x (List.mem_range.mpr hx)))⟩
noncomputable def fnsB (g : Gb) (t : Tabs) : Nat → List FI → Bool
  | _, [] => true
  | i, F :: r => fnB g t i F && fnsB g t (i + 1) r
theorem fns_of {g : Gb} {t : Tabs} : ∀ {l : List FI} {i : Nat}, fnsB g t i l = true → ∀ j F, l[j]? = some F → fnB g t (i + j) F = true
  | [], _, _, j, F, e => by cases e
  | G :: r, i, h, 0, F, e => by cases e; exact andL h
  | G :: r, i, h, j + 1, F, e => by
    have := fns_of (andR h) j F e
    rw [show i + (j + 1) = i + 1 + j from by lia]; exact this
end
section
set_option tactic.hygienic false
open PySem PySem.W
noncomputable def fi (f : Nat) : Option FI := fis[f]?
theorem lim_of {N m : Nat} (h : N ≤ m) (k : Nat.ble m 10000 = true) : N ≤ lim := Nat.le_trans h (Nat.le_of_ble_eq_true k)
inductive D where
  | none
  | int (i : Int)
  | str (s : Str)
  | rf (k : Bool)
noncomputable def D.isR (k : Bool) : D → Bool
  | .rf j => j == k
  | _ => false
structure Sc where
  a : Nat
  n : Int
  d : D
noncomputable abbrev Sc.v (s : Sc) : AV := .ref s.a
noncomputable def itemV : Option Sc → AV
  | none => .none
  | some s => .ref s.a
structure Fx where
  hp : Nat
  ct : Nat
  arr : Nat
  t0 : Nat
  t1 : Nat
  C : Nat
noncomputable abbrev Fx.tk (F : Fx) (k : Bool) : Nat := if k then F.t1 else F.t0
structure Wd where
  I : Nat
  Z : Nat
  last : Int
  xs : List (Option Sc)
  live : List Sc
  zl : List Sc
  zs : List Sc
  pd : List D
  ys : List (Option D)
  own : List Nat
noncomputable abbrev Wd.lastTo (w : Wd) (l : Int) : Wd := { w with last := l }
noncomputable abbrev Wd.xsTo (w : Wd) (l : List (Option Sc)) : Wd := { w with xs := l }
noncomputable abbrev Wd.zlTo (w : Wd) (l : List Sc) : Wd := { w with zl := l }
noncomputable abbrev Wd.ysTo (w : Wd) (l : List (Option D)) : Wd := { w with ys := l }
noncomputable abbrev Wd.pdTo (w : Wd) (l : List D) : Wd := { w with pd := l }
noncomputable abbrev Wd.liveTo (w : Wd) (l : List Sc) : Wd := { w with live := l }
noncomputable abbrev Wd.iTo (w : Wd) (m : Nat) (l : List (Option Sc)) : Wd := { w with I := m, xs := l }
noncomputable abbrev Wd.zTo (w : Wd) (m : Nat) (l : List Sc) : Wd := { w with Z := m, zl := l }
noncomputable abbrev Wd.lzTo (w : Wd) (l z : List Sc) : Wd := { w with live := l, zs := z }
noncomputable abbrev Wd.dropTo (w : Wd) (l z zl : List Sc) : Wd := { w with live := l, zs := z, zl := zl }
noncomputable abbrev Wd.frTo (w : Wd) (a : Int) (l : List Sc) : Wd := { w with last := a, live := l }
noncomputable abbrev Wd.plTo (w : Wd) (p : List D) (l : List Sc) : Wd := { w with pd := p, live := l }
noncomputable abbrev Wd.scTo (w : Wd) (l z : List Sc) (p : List D) (x : List (Option Sc)) : Wd := { w with live := l, zs := z, pd := p, xs := x }
noncomputable abbrev Wd.reTo (w : Wd) (I Z : Nat) (x : List (Option Sc)) (zl : List Sc) (o : List Nat) : Wd := { w with I := I, Z := Z, xs := x, zl := zl, own := o }
noncomputable abbrev scF (n c : Int) (wk : Nat) (v : AV) : List (Nat × AV) := [(0, .int n), (1, .int c), (2, .none), (3, .ref wk), (4, .bool false), (5, .bool false), (6, v), (7, .none)]
noncomputable abbrev arF (n c : Int) (wk I : Nat) : List (Nat × AV) := [(0, .int n), (1, .int c), (2, .none), (3, .ref wk), (4, .bool false), (5, .bool false), (8, .ref I), (9, .none)]
noncomputable abbrev rfF (t : Nat) : List (Nat × AV) := [(10, .ref t), (11, .bool false)]
noncomputable abbrev hpF (lm : AV) (last : Int) (Z : Nat) : List (Nat × AV) := [(12, lm), (13, .int last), (14, .ref Z)]
noncomputable def imm : AO → Bool
  | .inst C _ => C != 59 && C != 78 && C != 218
  | _ => true
noncomputable def Wd.cnt (w : Wd) (k : Bool) : Int := 1 + (((w.live ++ w.zs).map Sc.d ++ w.pd).countP (D.isR k) : Nat)
noncomputable def muts (F : Fx) (w : Wd) : List Nat := F.C :: w.I :: w.Z :: w.own
structure At_ (F : Fx) (w : Wd) (σ : AH) (a : Nat) (o : AO) : Prop where
  at_ : σ a = some o
  im : imm o = true
  ne : a ∉ muts F w
inductive Vl (F : Fx) (w : Wd) (σ : AH) : AV → D → Prop where
  | none : Vl F w σ .none .none
  | int (i) : Vl F w σ (.int i) (.int i)
  | str (s) (h : PyData.strOk s = true) : Vl F w σ (.str s) (.str s)
  | ref {r k} (h : At_ F w σ r (.inst 155 (rfF (F.tk k)))) : Vl F w σ (.ref r) (.rf k)
noncomputable def num (k : Bool) : Int := if k then 2 else 1
inductive Tl (F : Fx) (w : Wd) (σ : AH) : AV → D → Prop where
  | none : Tl F w σ .none .none
  | int (i) : Tl F w σ (.int i) (.int i)
  | str (s) (h : PyData.strOk s = true) : Tl F w σ (.str s) (.str s)
  | ref {r k} (h : At_ F w σ r (.tup [.str (.ofString "ref"), .int (num k)])) : Tl F w σ (.ref r) (.rf k)
inductive Cl (F : Fx) (w : Wd) (σ : AH) : AV → Option D → Prop where
  | none : Cl F w σ .none none
  | some {c u d} (h : At_ F w σ c (.list [u])) (t : Tl F w σ u d) : Cl F w σ (.ref c) (some d)
inductive All2 {α β : Type} (R : α → β → Prop) : List α → List β → Prop where
  | nil : All2 R [] []
  | cons {a b as bs} (h : R a b) (r : All2 R as bs) : All2 R (a :: as) (b :: bs)
structure ScAt (F : Fx) (w : Wd) (σ : AH) (c : Int) (s : Sc) : Prop where
  ex : ∃ wk v, σ s.a = some (.inst 59 (scF s.n c wk v)) ∧ Vl F w σ v s.d ∧ At_ F w σ wk (.list [])
structure Ok (F : Fx) (w : Wd) (σ : AH) : Prop where
  hp : ∃ lm, σ F.hp = some (.inst 218 (hpF lm w.last w.Z))
  ct : ∃ P, At_ F w σ F.ct (.inst 559 [(15, .ref F.hp), (16, .none), (17, .ref P)]) ∧ At_ F w σ P (.dict [])
  arr : ∃ wk, σ F.arr = some (.inst 78 (arF 3 1 wk w.I))
  t0 : ∃ wk, σ F.t0 = some (.inst 59 (scF 1 (w.cnt false) wk (.int 5)))
  t1 : ∃ wk J, σ F.t1 = some (.inst 78 (arF 2 (w.cnt true) wk J))
  I : σ w.I = some (.list (w.xs.map itemV))
  Z : σ w.Z = some (.list (w.zl.map Sc.v))
  C : ∃ cs, σ F.C = some (.list cs) ∧ All2 (Cl F w σ) cs w.ys
  nd : (muts F w).Nodup
  own : ∀ a ∈ w.own, ∃ o, σ a = some o ∧ imm o = true
  live : ∀ s ∈ w.live, ScAt F w σ 1 s
  zs : ∀ s ∈ w.zs, ScAt F w σ 0 s
  ndn : ((w.live ++ w.zs).map Sc.n).Nodup
  rng : ∀ s ∈ w.live ++ w.zs, 3 < s.n ∧ s.n ≤ w.last
structure Step (F : Fx) (w : Wd) (σ : AH) (w' : Wd) (σ' : AH) : Prop where
  own : w'.own = w.own
  at_ : ∀ a o, At_ F w σ a o → At_ F w' σ' a o
  mine : ∀ a ∈ w.own, σ' a = σ a
structure Go (F : Fx) (w : Wd) (σ : AH) (w' : Wd) (σ' : AH) : Prop where
  ok : Ok F w' σ'
  st : Step F w σ w' σ'
section
variable {F : Fx} {w w' w'' : Wd} {σ σ' σ'' : AH} {α β γ : Type} {R R' : α → β → Prop}
theorem Step.rfl : Step F w σ w σ := ⟨_root_.rfl, fun Ω Ω h => h, fun Ω Ω => _root_.rfl⟩
theorem Step.trans (S : Step F w σ w' σ') (T : Step F w' σ' w'' σ'') : Step F w σ w'' σ'' :=
  ⟨T.own.trans S.own, fun a o h => T.at_ a o (S.at_ a o h), fun a h => (T.mine a (S.own ▸ h)).trans (S.mine a h)⟩
theorem Go.refl (O : Ok F w σ) : Go F w σ w σ := ⟨O, .rfl⟩
theorem Go.trans (G : Go F w σ w' σ') (H : Go F w' σ' w'' σ'') : Go F w σ w'' σ'' := ⟨H.ok, G.st.trans H.st⟩
theorem Vl.st (S : Step F w σ w' σ') {v d} (h : Vl F w σ v d) : Vl F w' σ' v d := by
  cases h with
  | none => exact .none
  | int i => exact .int i
  | str s h => exact .str s h
  | ref h => exact .ref (S.at_ _ _ h)
theorem Tl.st (S : Step F w σ w' σ') {v d} (h : Tl F w σ v d) : Tl F w' σ' v d := by
  cases h with
  | none => exact .none
  | int i => exact .int i
  | str s h => exact .str s h
  | ref h => exact .ref (S.at_ _ _ h)
theorem Cl.st (S : Step F w σ w' σ') {v d} (h : Cl F w σ v d) : Cl F w' σ' v d := by
  cases h with
  | none => exact .none
  | some h t => exact .some (S.at_ _ _ h) (t.st S)
theorem All2.mono {as bs} (h : All2 R as bs) (k : ∀ a b, R a b → R' a b) : All2 R' as bs := by
  induction h with
  | nil => exact .nil
  | cons a _ ih => exact .cons (k _ _ a) ih
theorem ScAt.st (S : Step F w σ w' σ') {c s} (h : ScAt F w σ c s) (e : σ' s.a = σ s.a) : ScAt F w' σ' c s := by
  obtain ⟨wk, v, h1, h2, h3⟩ := h.ex
  exact ⟨wk, v, e.trans h1, h2.st S, S.at_ _ _ h3⟩
theorem put_eq {a : Nat} {o : AO} : (σ.put a o) a = some o := if_pos _root_.rfl
theorem put_ne {a b : Nat} {o : AO} (h : b ≠ a) : (σ.put a o) b = σ b := if_neg h
theorem put_at {a b : Nat} {o x y : AO} (ha : σ a = some x) (hb : σ b = some y) (n : x ≠ y) : (σ.put a o) b = some y :=
  (put_ne fun e => n (by cases e; exact Option.some.inj (ha.symm.trans hb))).trans hb
theorem put_new {a b : Nat} {o y : AO} (ha : σ a = none) (hb : σ b = some y) : (σ.put a o) b = some y :=
  (put_ne fun e => by cases e; rw [ha] at hb; cases hb).trans hb
theorem Step.put {a : Nat} {o : AO} (h : a ∈ muts F w ∨ ∃ x, σ a = some x ∧ imm x = false) (n : a ∉ w.own) (e : w'.own = w.own) (m : ∀ b ∈ muts F w', b ∈ muts F w) : Step F w σ w' (σ.put a o) := by
  refine ⟨e, fun b x B => ⟨(put_ne fun z => ?_).trans B.at_, B.im, fun z => B.ne (m b z)⟩, fun b z => put_ne fun q => n (q ▸ z)⟩
  subst z
  rcases h with h | ⟨y, h1, h2⟩
  · exact B.ne h
  · have := Option.some.inj (B.at_.symm.trans h1)
    rw [← this, B.im] at h2
    cases h2
theorem Step.new (O : Ok F w σ) {a : Nat} (h : σ a = none) (o : AO) : Step F w σ w (σ.put a o) :=
  ⟨_root_.rfl, fun b x B => ⟨put_new h B.at_, B.im, B.ne⟩, fun b z => put_ne fun q => by obtain ⟨x, e, _⟩ := O.own b z; rw [q, h] at e; cases e⟩
theorem Ok.notMut (O : Ok F w σ) {a : Nat} (h : σ a = none) : a ∉ muts F w := by
  intro m
  have k : ∀ {b y}, σ b = some y → a ≠ b := fun hb e => by rw [e, hb] at h; cases h
  obtain ⟨cs, hc, _⟩ := O.C
  rcases List.mem_cons.mp m with e | m
  · exact k hc e
  rcases List.mem_cons.mp m with e | m
  · exact k O.I e
  rcases List.mem_cons.mp m with e | m
  · exact k O.Z e
  · obtain ⟨o, e, _⟩ := O.own a m
    exact k e _root_.rfl
theorem Ok.new (O : Ok F w σ) {a : Nat} (h : σ a = none) (o : AO) : Go F w σ w (σ.put a o) := by
  have S := Step.new O h o
  obtain ⟨lm, h1⟩ := O.hp
  obtain ⟨P, h2, h3⟩ := O.ct
  obtain ⟨k, h4⟩ := O.arr
  obtain ⟨k0, h5⟩ := O.t0
  obtain ⟨k1, J, h6⟩ := O.t1
  obtain ⟨cs, h7, h8⟩ := O.C
  exact ⟨⟨⟨lm, put_new h h1⟩, ⟨P, S.at_ _ _ h2, S.at_ _ _ h3⟩, ⟨k, put_new h h4⟩, ⟨k0, put_new h h5⟩, ⟨k1, J, put_new h h6⟩, put_new h O.I, put_new h O.Z, ⟨cs, put_new h h7, h8.mono fun Ω Ω c => c.st S⟩, O.nd,
    fun b m => let ⟨x, e, i⟩ := O.own b m; ⟨x, put_new h e, i⟩, fun s m => (O.live s m).st S (let ⟨_, _, e, _⟩ := (O.live s m).ex; (put_new h e).trans e.symm), fun s m => (O.zs s m).st S (let ⟨_, _, e, _⟩ := (O.zs s m).ex; (put_new h e).trans e.symm), O.ndn, O.rng⟩, S⟩
theorem Ok.newAt (O : Ok F w σ) {a : Nat} (h : σ a = none) {o : AO} (i : imm o = true) : At_ F w (σ.put a o) a o := ⟨put_eq, i, O.notMut h⟩
end
end
section
set_option tactic.hygienic false
open PySem PySem.W
noncomputable def cl : AO → Nat
  | .inst C _ => C
  | .list _ => 0
  | .tup _ => 1
  | .dict _ => 2
noncomputable def nu : AO → Int
  | .inst _ ((_, .int n) :: _) => n
  | _ => 0
section
variable {F : Fx} {w w' w'' : Wd} {σ σ' σ'' : AH}
theorem put_cl {a b : Nat} {o x y : AO} (ha : σ a = some x) (hb : σ b = some y) (n : (cl x == cl y) = false) : (σ.put a o) b = some y := put_at ha hb fun e => by rw [e, beq_self_eq_true] at n; cases n
theorem put_nu {a b : Nat} {o x y : AO} (ha : σ a = some x) (hb : σ b = some y) (n : nu x ≠ nu y) : (σ.put a o) b = some y := put_at ha hb fun e => n (e ▸ rfl)
theorem Ok.sub (O : Ok F w σ) {s : Sc} (h : s ∈ w.live ++ w.zs) : ∃ c fs, σ s.a = some (.inst 59 ((0, .int s.n) :: fs)) ∧ s.n ≠ 1 ∧ c = s.n ∧ s.n ≠ 2 ∧ s.n ≠ 3 := by
  have := (O.rng s h).1
  rcases List.mem_append.mp h with m | m
  · obtain ⟨_, _, e, _⟩ := (O.live s m).ex
    exact ⟨s.n, _, e, by omega, rfl, by omega, by omega⟩
  · obtain ⟨_, _, e, _⟩ := (O.zs s m).ex
    exact ⟨s.n, _, e, by omega, rfl, by omega, by omega⟩
theorem Ok.scs (O : Ok F w σ) (S : Step F w σ w' σ') (k : ∀ s ∈ w.live ++ w.zs, σ' s.a = σ s.a) : (∀ s ∈ w.live, ScAt F w' σ' 1 s) ∧ ∀ s ∈ w.zs, ScAt F w' σ' 0 s :=
  ⟨fun s m => (O.live s m).st S (k s (List.mem_append_left _ m)), fun s m => (O.zs s m).st S (k s (List.mem_append_right _ m))⟩
theorem Ok.owns (O : Ok F w σ) {a : Nat} {o : AO} (n : a ∉ w.own) : ∀ b ∈ w.own, ∃ x, (σ.put a o) b = some x ∧ imm x = true := fun b m => let ⟨x, e, i⟩ := O.own b m; ⟨x, (put_ne (fun z : b = a => n (z ▸ m))).trans e, i⟩
theorem Ok.notOwn (O : Ok F w σ) {a : Nat} {x : AO} (h : σ a = some x) (i : imm x = false) : a ∉ w.own := fun m => by
  obtain ⟨y, e, j⟩ := O.own a m
  rw [Option.some.inj (h.symm.trans e), j] at i
  cases i
theorem Ok.mutStep (O : Ok F w σ) {a : Nat} {x o : AO} (h : σ a = some x) (i : imm x = false) (e : w'.own = w.own) (m : ∀ b ∈ muts F w', b ∈ muts F w) : Step F w σ w' (σ.put a o) :=
  .put (.inr ⟨x, h, i⟩) (O.notOwn h i) e m
theorem Ok.setLast (O : Ok F w σ) {lm l} (h : σ F.hp = some (.inst 218 (hpF lm w.last w.Z))) (hl : w.last ≤ l) : Go F w σ (w.lastTo l) (σ.put F.hp (.inst 218 (hpF lm l w.Z))) := by
  have S : Step F w σ (w.lastTo l) (σ.put F.hp (.inst 218 (hpF lm l w.Z))) := O.mutStep h rfl rfl fun b z => z
  obtain ⟨P, h2, h3⟩ := O.ct
  obtain ⟨k, h4⟩ := O.arr
  obtain ⟨k0, h5⟩ := O.t0
  obtain ⟨k1, J, h6⟩ := O.t1
  obtain ⟨cs, h7, h8⟩ := O.C
  obtain ⟨a, b⟩ := O.scs S fun s m => let ⟨_, fs, e, _⟩ := O.sub m; (put_cl h e rfl).trans e.symm
  exact ⟨⟨⟨lm, put_eq⟩, ⟨P, S.at_ _ _ h2, S.at_ _ _ h3⟩, ⟨k, put_cl h h4 rfl⟩, ⟨k0, put_cl h h5 rfl⟩, ⟨k1, J, put_cl h h6 rfl⟩, put_cl h O.I rfl, put_cl h O.Z rfl, ⟨cs, put_cl h h7 rfl, h8.mono fun Ω Ω c => c.st S⟩, O.nd,
    O.owns (O.notOwn h rfl), a, b, O.ndn, fun s m => ⟨(O.rng s m).1, Int.le_trans (O.rng s m).2 hl⟩⟩, S⟩
theorem Ok.setItems (O : Ok F w σ) (xs : List (Option Sc)) : Go F w σ (w.xsTo xs) (σ.put w.I (.list (xs.map itemV))) := by
  have nd := O.nd
  have n1 : w.I ∉ w.own := by simp only [muts, List.nodup_cons, List.mem_cons, not_or] at nd; exact nd.2.1.2
  have n2 : w.Z ≠ w.I := by simp only [muts, List.nodup_cons, List.mem_cons, not_or] at nd; exact fun e => nd.2.1.1 e.symm
  have n3 : F.C ≠ w.I := by simp only [muts, List.nodup_cons, List.mem_cons, not_or] at nd; exact nd.1.1
  have S : Step F w σ (w.xsTo xs) (σ.put w.I (.list (xs.map itemV))) := .put (.inl (.tail _ (.head _))) n1 rfl fun b z => z
  have h := O.I
  obtain ⟨lm, h1⟩ := O.hp
  obtain ⟨P, h2, h3⟩ := O.ct
  obtain ⟨k, h4⟩ := O.arr
  obtain ⟨k0, h5⟩ := O.t0
  obtain ⟨k1, J, h6⟩ := O.t1
  obtain ⟨cs, h7, h8⟩ := O.C
  obtain ⟨a, b⟩ := O.scs S fun s m => let ⟨_, fs, e, _⟩ := O.sub m; (put_cl h e rfl).trans e.symm
  exact ⟨⟨⟨lm, put_cl h h1 rfl⟩, ⟨P, S.at_ _ _ h2, S.at_ _ _ h3⟩, ⟨k, put_cl h h4 rfl⟩, ⟨k0, put_cl h h5 rfl⟩, ⟨k1, J, put_cl h h6 rfl⟩, put_eq, (put_ne n2).trans O.Z, ⟨cs, (put_ne n3).trans h7, h8.mono fun Ω Ω c => c.st S⟩, O.nd,
    O.owns n1, a, b, O.ndn, O.rng⟩, S⟩
theorem Ok.setZero (O : Ok F w σ) (zl : List Sc) : Go F w σ (w.zlTo zl) (σ.put w.Z (.list (zl.map Sc.v))) := by
  have nd := O.nd
  have n1 : w.Z ∉ w.own := by simp only [muts, List.nodup_cons, List.mem_cons, not_or] at nd; exact nd.2.2.1
  have n2 : w.I ≠ w.Z := by simp only [muts, List.nodup_cons, List.mem_cons, not_or] at nd; exact nd.2.1.1
  have n3 : F.C ≠ w.Z := by simp only [muts, List.nodup_cons, List.mem_cons, not_or] at nd; exact nd.1.2.1
  have S : Step F w σ (w.zlTo zl) (σ.put w.Z (.list (zl.map Sc.v))) := .put (.inl (.tail _ (.tail _ (.head _)))) n1 rfl fun b z => z
  have h := O.Z
  obtain ⟨lm, h1⟩ := O.hp
  obtain ⟨P, h2, h3⟩ := O.ct
  obtain ⟨k, h4⟩ := O.arr
  obtain ⟨k0, h5⟩ := O.t0
  obtain ⟨k1, J, h6⟩ := O.t1
  obtain ⟨cs, h7, h8⟩ := O.C
  obtain ⟨a, b⟩ := O.scs S fun s m => let ⟨_, fs, e, _⟩ := O.sub m; (put_cl h e rfl).trans e.symm
  exact ⟨⟨⟨lm, put_cl h h1 rfl⟩, ⟨P, S.at_ _ _ h2, S.at_ _ _ h3⟩, ⟨k, put_cl h h4 rfl⟩, ⟨k0, put_cl h h5 rfl⟩, ⟨k1, J, put_cl h h6 rfl⟩, (put_ne n2).trans O.I, put_eq, ⟨cs, (put_ne n3).trans h7, h8.mono fun Ω Ω c => c.st S⟩, O.nd,
    O.owns n1, a, b, O.ndn, O.rng⟩, S⟩
theorem Ok.setCells (O : Ok F w σ) {cs : List AV} {ys : List (Option D)} (hc : All2 (Cl F w σ) cs ys) : Go F w σ (w.ysTo ys) (σ.put F.C (.list cs)) := by
  have nd := O.nd
  have n1 : F.C ∉ w.own := by simp only [muts, List.nodup_cons, List.mem_cons, not_or] at nd; exact nd.1.2.2
  have n2 : w.I ≠ F.C := by simp only [muts, List.nodup_cons, List.mem_cons, not_or] at nd; exact fun e => nd.1.1 e.symm
  have n3 : w.Z ≠ F.C := by simp only [muts, List.nodup_cons, List.mem_cons, not_or] at nd; exact fun e => nd.1.2.1 e.symm
  have S : Step F w σ (w.ysTo ys) (σ.put F.C (.list cs)) := .put (.inl (.head _)) n1 rfl fun b z => z
  obtain ⟨lm, h1⟩ := O.hp
  obtain ⟨P, h2, h3⟩ := O.ct
  obtain ⟨k, h4⟩ := O.arr
  obtain ⟨k0, h5⟩ := O.t0
  obtain ⟨k1, J, h6⟩ := O.t1
  obtain ⟨cs', h, h8⟩ := O.C
  obtain ⟨a, b⟩ := O.scs S fun s m => let ⟨_, fs, e, _⟩ := O.sub m; (put_cl h e rfl).trans e.symm
  exact ⟨⟨⟨lm, put_cl h h1 rfl⟩, ⟨P, S.at_ _ _ h2, S.at_ _ _ h3⟩, ⟨k, put_cl h h4 rfl⟩, ⟨k0, put_cl h h5 rfl⟩, ⟨k1, J, put_cl h h6 rfl⟩, (put_ne n2).trans O.I, (put_ne n3).trans O.Z, ⟨cs, put_eq, hc.mono fun Ω Ω c => c.st S⟩, O.nd,
    O.owns n1, a, b, O.ndn, O.rng⟩, S⟩
theorem cnt_perm {w w' : Wd} (h : ((w.live ++ w.zs).map Sc.d ++ w.pd).Perm ((w'.live ++ w'.zs).map Sc.d ++ w'.pd)) (k : Bool) : w'.cnt k = w.cnt k := by
  unfold Wd.cnt; rw [h.countP_eq]
theorem cnt_pd (k j : Bool) : (w.pdTo (.rf j :: w.pd)).cnt k = w.cnt k + if j == k then 1 else 0 := by
  show (1 + ((List.countP (D.isR k) (_ ++ D.rf j :: w.pd) : Nat) : Int)) = 1 + ((List.countP (D.isR k) (_ ++ w.pd) : Nat) : Int) + _
  rw [List.countP_append, List.countP_append, List.countP_cons]
  show (1 + ((_ + (_ + if (j == k) = true then 1 else 0) : Nat) : Int)) = _
  cases j == k <;> simp <;> omega
noncomputable def tkO (w : Wd) (k : Bool) (c : Int) (wk J : Nat) : AO := match k with
  | false => .inst 59 (scF 1 c wk (.int 5))
  | true => .inst 78 (arF 2 c wk J)
theorem Ok.tk (O : Ok F w σ) (k : Bool) : ∃ wk J, σ (F.tk k) = some (tkO w k (w.cnt k) wk J) := by
  cases k with
  | false => obtain ⟨wk, h⟩ := O.t0; exact ⟨wk, 0, h⟩
  | true => obtain ⟨wk, J, h⟩ := O.t1; exact ⟨wk, J, h⟩
theorem Ok.setTk (O : Ok F w σ) {k : Bool} {wk J : Nat} (h : σ (F.tk k) = some (tkO w k (w.cnt k) wk J)) {pd : List D} (e : (w.pdTo pd).cnt (!k) = w.cnt (!k)) :
    Go F w σ (w.pdTo pd) (σ.put (F.tk k) (tkO w k ((w.pdTo pd).cnt k) wk J)) := by
  obtain ⟨lm, h1⟩ := O.hp
  obtain ⟨P, h2, h3⟩ := O.ct
  obtain ⟨ka, h4⟩ := O.arr
  obtain ⟨k0, h5⟩ := O.t0
  obtain ⟨k1, J1, h6⟩ := O.t1
  obtain ⟨cs, h7, h8⟩ := O.C
  cases k with
  | false =>
    have S : Step F w σ (w.pdTo pd) (σ.put F.t0 (.inst 59 (scF 1 ((w.pdTo pd).cnt false) wk (.int 5)))) := O.mutStep h rfl rfl fun b z => z
    obtain ⟨a, b⟩ := O.scs S fun s m => let ⟨_, fs, q, n, _⟩ := O.sub m; (put_nu h q fun z => n z.symm).trans q.symm
    exact ⟨⟨⟨lm, put_cl h h1 rfl⟩, ⟨P, S.at_ _ _ h2, S.at_ _ _ h3⟩, ⟨ka, put_cl h h4 rfl⟩, ⟨_, put_eq⟩, ⟨k1, J1, (put_cl h h6 rfl).trans (by rw [show (w.pdTo pd).cnt true = w.cnt true from e])⟩, put_cl h O.I rfl, put_cl h O.Z rfl, ⟨cs, put_cl h h7 rfl, h8.mono fun Ω Ω c => c.st S⟩, O.nd,
      O.owns (O.notOwn h rfl), a, b, O.ndn, O.rng⟩, S⟩
  | true =>
    have S : Step F w σ (w.pdTo pd) (σ.put F.t1 (.inst 78 (arF 2 ((w.pdTo pd).cnt true) wk J))) := O.mutStep h rfl rfl fun b z => z
    obtain ⟨a, b⟩ := O.scs S fun s m => let ⟨_, fs, q, _⟩ := O.sub m; (put_cl h q rfl).trans q.symm
    exact ⟨⟨⟨lm, put_cl h h1 rfl⟩, ⟨P, S.at_ _ _ h2, S.at_ _ _ h3⟩, ⟨ka, put_nu h h4 (by show (2 : Int) ≠ 3; decide)⟩, ⟨k0, (put_cl h h5 rfl).trans (by rw [show (w.pdTo pd).cnt false = w.cnt false from e])⟩, ⟨_, _, put_eq⟩, put_cl h O.I rfl, put_cl h O.Z rfl, ⟨cs, put_cl h h7 rfl, h8.mono fun Ω Ω c => c.st S⟩, O.nd,
      O.owns (O.notOwn h rfl), a, b, O.ndn, O.rng⟩, S⟩
theorem Ok.setSc (O : Ok F w σ) {s : Sc} (hs : s ∈ w.live ++ w.zs) {o : AO} {w' : Wd} (e : w' = (w.scTo w'.live w'.zs w'.pd w'.xs))
    (he : w'.xs.map itemV = w.xs.map itemV) (hc : ∀ k, w'.cnt k = w.cnt k) (nd : ((w'.live ++ w'.zs).map Sc.n).Nodup) (rg : ∀ s ∈ w'.live ++ w'.zs, 3 < s.n ∧ s.n ≤ w.last)
    (l : ∀ t ∈ w'.live, t.n ≠ s.n ∧ t ∈ w.live ∨ ScAt F w' (σ.put s.a o) 1 t) (z : ∀ t ∈ w'.zs, t.n ≠ s.n ∧ t ∈ w.zs ∨ ScAt F w' (σ.put s.a o) 0 t) : Go F w σ w' (σ.put s.a o) := by
  obtain ⟨lm, h1⟩ := O.hp
  obtain ⟨P, h2, h3⟩ := O.ct
  obtain ⟨ka, h4⟩ := O.arr
  obtain ⟨k0, h5⟩ := O.t0
  obtain ⟨k1, J1, h6⟩ := O.t1
  obtain ⟨cs, h7, h8⟩ := O.C
  obtain ⟨_, fs, h, n1, _⟩ := O.sub hs
  have em : muts F w' = muts F w := by rw [e]; rfl
  have S : Step F w σ w' (σ.put s.a o) := O.mutStep h rfl (by rw [e]) fun b z => em ▸ z
  have cs' : ∀ {t : Sc} {c : Int}, ScAt F w σ c t → t.n ≠ s.n → ScAt F w' (σ.put s.a o) c t := fun q n => q.st S (let ⟨_, _, e, _⟩ := q.ex; (put_nu h e fun z => n z.symm).trans e.symm)
  have a : ∀ t ∈ w'.live, ScAt F w' (σ.put s.a o) 1 t := fun t m => (l t m).elim (fun q => cs' (O.live t q.2) q.1) id
  have b : ∀ t ∈ w'.zs, ScAt F w' (σ.put s.a o) 0 t := fun t m => (z t m).elim (fun q => cs' (O.zs t q.2) q.1) id
  refine ⟨⟨⟨lm, (put_cl h h1 rfl).trans (by rw [e])⟩, ⟨P, S.at_ _ _ h2, S.at_ _ _ h3⟩, ⟨ka, (put_cl h h4 rfl).trans (by rw [e])⟩, ⟨k0, hc _ ▸ put_nu h h5 n1⟩, ⟨k1, J1, hc _ ▸ put_cl h h6 rfl⟩, ?_, ?_, ⟨cs, put_cl h h7 rfl, ?_⟩, em ▸ O.nd,
      ?_, a, b, nd, fun s m => by rw [show w'.last = w.last from by rw [e]]; exact rg s m⟩, S⟩
  · rw [he, show w'.I = w.I from by rw [e]]; exact put_cl h O.I rfl
  · rw [show w'.Z = w.Z from by rw [e], show w'.zl = w.zl from by rw [e]]; exact put_cl h O.Z rfl
  · rw [show w'.ys = w.ys from by rw [e]]; exact h8.mono fun Ω Ω c => c.st S
  · rw [show w'.own = w.own from by rw [e]]; exact O.owns (O.notOwn h rfl)
end
end
section
set_option tactic.hygienic false
open PySem PySem.W
noncomputable abbrev Wd.add (w : Wd) (a : Nat) : Wd := { w with own := a :: w.own }
section
variable {F : Fx} {w w' w'' : Wd} {σ σ' σ'' : AH}
theorem Ok.re (O : Ok F w σ) {w' : Wd} (k : ∀ b x, At_ F w σ b x → At_ F w' σ' b x) (e : w' = (w.reTo w'.I w'.Z w'.xs w'.zl w'.own))
    (hp : ∃ lm, σ' F.hp = some (.inst 218 (hpF lm w'.last w'.Z))) (arr : ∃ wk, σ' F.arr = some (.inst 78 (arF 3 1 wk w'.I))) (I : σ' w'.I = some (.list (w'.xs.map itemV))) (Z : σ' w'.Z = some (.list (w'.zl.map Sc.v)))
    (nd : (muts F w').Nodup) (own : ∀ a ∈ w'.own, ∃ o, σ' a = some o ∧ imm o = true)
    (hk : ∀ b n fs, σ b = some (.inst 59 ((0, .int n) :: fs)) ∨ σ b = some (.inst 78 ((0, .int 2) :: fs)) → σ' b = σ b) (hC : σ' F.C = σ F.C) : Ok F w' σ' := by
  obtain ⟨P, h2, h3⟩ := O.ct
  obtain ⟨k0, h5⟩ := O.t0
  obtain ⟨k1, J1, h6⟩ := O.t1
  obtain ⟨cs, h7, h8⟩ := O.C
  have ec : ∀ k, w'.cnt k = w.cnt k := fun k => by rw [e]; rfl
  have el : w'.live = w.live := by rw [e]
  have ez : w'.zs = w.zs := by rw [e]
  have vl : ∀ {v d}, Vl F w σ v d → Vl F w' σ' v d := fun h => by
    cases h with
    | none => exact .none
    | int i => exact .int i
    | str s h => exact .str s h
    | ref h => exact .ref (k _ _ h)
  have tl : ∀ {v d}, Tl F w σ v d → Tl F w' σ' v d := fun h => by
    cases h with
    | none => exact .none
    | int i => exact .int i
    | str s h => exact .str s h
    | ref h => exact .ref (k _ _ h)
  have sc : ∀ {c s}, ScAt F w σ c s → ScAt F w' σ' c s := fun h => let ⟨wk, v, a, b, d⟩ := h.ex; ⟨wk, v, (hk _ _ _ (.inl a)).trans a, vl b, k _ _ d⟩
  refine ⟨hp, ⟨P, k _ _ h2, k _ _ h3⟩, arr, ⟨k0, (hk _ _ _ (.inl h5)).trans (ec _ ▸ h5)⟩, ⟨k1, J1, (hk _ 0 _ (.inr h6)).trans (ec _ ▸ h6)⟩, I, Z, ⟨cs, hC.trans h7, ?_⟩, nd, own, fun s m => sc (O.live s (el ▸ m)), fun s m => sc (O.zs s (ez ▸ m)), ?_, ?_⟩
  · rw [show w'.ys = w.ys from by rw [e]]
    exact h8.mono fun Ω Ω c => by
      cases c with
      | none => exact .none
      | some h t => exact .some (k _ _ h) (tl t)
  · rw [el, ez]; exact O.ndn
  · rw [el, ez, show w'.last = w.last from by rw [e]]; exact O.rng
theorem Ok.own_new (O : Ok F w σ) {a : Nat} (h : σ a = none) {o : AO} (i : imm o = true) : Ok F (w.add a) (σ.put a o) := by
  obtain ⟨lm, h1⟩ := O.hp
  obtain ⟨ka, h4⟩ := O.arr
  obtain ⟨cs, h7, _⟩ := O.C
  have nm := O.notMut h
  simp only [muts, List.mem_cons, not_or] at nm
  have hh : ∀ b x, σ b = some x → (σ.put a o) b = some x := fun b x e => put_new h e
  refine O.re (fun b x B => ⟨hh b x B.at_, B.im, ?_⟩) rfl ⟨lm, hh _ _ h1⟩ ⟨ka, hh _ _ h4⟩ (hh _ _ O.I) (hh _ _ O.Z) ?_ ?_ (fun b n fs q => ?_) ((hh _ _ h7).trans h7.symm)
  · have := B.ne
    have nb : b ≠ a := fun e => by have := B.at_; rw [e, h] at this; cases this
    simp only [muts, List.mem_cons, not_or] at this ⊢
    exact ⟨this.1, this.2.1, this.2.2.1, nb, this.2.2.2⟩
  · have nd := O.nd
    simp only [muts, List.nodup_cons, List.mem_cons, not_or] at nd ⊢
    exact ⟨⟨nd.1.1, nd.1.2.1, fun e => nm.1 e.symm, nd.1.2.2⟩, ⟨nd.2.1.1, fun e => nm.2.1 e.symm, nd.2.1.2⟩, ⟨fun e => nm.2.2.1 e.symm, nd.2.2.1⟩, nm.2.2.2, nd.2.2.2⟩
  · intro b m
    rcases List.mem_cons.mp m with e | m
    · subst e; exact ⟨o, put_eq, i⟩
    · obtain ⟨x, e, j⟩ := O.own b m; exact ⟨x, hh _ _ e, j⟩
  · rcases q with q | q <;> exact (hh _ _ q).trans q.symm
theorem Ok.own_put (O : Ok F (w.add a) σ) {o : AO} (i : imm o = true) : Ok F (w.add a) (σ.put a o) := by
  obtain ⟨lm, h1⟩ := O.hp
  obtain ⟨ka, h4⟩ := O.arr
  obtain ⟨cs, h7, _⟩ := O.C
  obtain ⟨x, hx, ix⟩ := O.own a (.head _)
  have nd := O.nd
  simp only [muts, List.nodup_cons, List.mem_cons, not_or] at nd
  have ni : ∀ {b y}, σ b = some y → imm y = false → (σ.put a o) b = some y := fun e j => put_at hx e fun z => by rw [z, j] at ix; cases ix
  refine O.re (fun b x B => ⟨(put_ne (fun e : b = a => B.ne (e.symm ▸ .tail _ (.tail _ (.tail _ (.head _)))))).trans B.at_, B.im, B.ne⟩) rfl ⟨lm, ni h1 rfl⟩ ⟨ka, ni h4 rfl⟩ ((put_ne nd.2.1.2.1).trans O.I) ((put_ne nd.2.2.1.1).trans O.Z) O.nd ?_ (fun b n fs q => ?_) (put_ne nd.1.2.2.1)
  · intro b m
    by_cases e : b = a
    · subst e; exact ⟨o, put_eq, i⟩
    · obtain ⟨y, e', j⟩ := O.own b m; exact ⟨y, (put_ne e).trans e', j⟩
  · rcases q with q | q <;> exact (ni q rfl).trans q.symm
theorem Ok.own_pop (O : Ok F (w.add a) σ) : Ok F w σ ∧ ∀ o, σ a = some o → At_ F w σ a o := by
  have nd := O.nd
  obtain ⟨x, hx, ix⟩ := O.own a (.head _)
  have nd' := nd
  simp only [muts, List.nodup_cons, List.mem_cons, not_or] at nd
  refine ⟨O.re (fun b x B => ⟨B.at_, B.im, ?_⟩) rfl O.hp O.arr O.I O.Z ?_ (fun b m => O.own b (.tail _ m)) (fun Ω Ω Ω Ω => rfl) rfl, fun o e => ⟨e, ?_, ?_⟩⟩
  · have := B.ne
    simp only [muts, List.mem_cons, not_or] at this ⊢
    exact ⟨this.1, this.2.1, this.2.2.1, this.2.2.2.2⟩
  · simp only [muts, List.nodup_cons, List.mem_cons, not_or]
    exact ⟨⟨nd.1.1, nd.1.2.1, nd.1.2.2.2⟩, ⟨nd.2.1.1, nd.2.1.2.2⟩, nd.2.2.1.2, nd.2.2.2.2⟩
  · rw [← Option.some.inj (hx.symm.trans e)]; exact ix
  · simp only [muts, List.mem_cons, not_or]
    exact ⟨fun e => nd.1.2.2.1 e.symm, fun e => nd.2.1.2.1 e.symm, fun e => nd.2.2.1.1 e.symm, nd.2.2.2.1⟩
theorem Step.pop {a : Nat} {o : AO} (h : σ a = none) (S : Step F (w.add a) (σ.put a o) w'' σ') (O : Ok F w σ) (e : w'.own = w.own) (m : ∀ b ∈ muts F w', b = a ∨ b ∈ muts F w'') : Step F w σ w' σ' := by
  refine ⟨e, fun b x B => ?_, fun b z => ?_⟩
  · have nb : b ≠ a := fun e => by have := B.at_; rw [e, h] at this; cases this
    have B' : At_ F (w.add a) (σ.put a o) b x := ⟨put_new h B.at_, B.im, by
      have := B.ne
      simp only [muts, List.mem_cons, not_or] at this ⊢
      exact ⟨this.1, this.2.1, this.2.2.1, nb, this.2.2.2⟩⟩
    have B'' := S.at_ b x B'
    exact ⟨B''.at_, B''.im, fun q => (m b q).elim nb B''.ne⟩
  · obtain ⟨x, e, _⟩ := O.own b z
    exact (S.mine b (.tail _ z)).trans ((put_new h e).trans e.symm)
theorem muts_swapI {w : Wd} {m : Nat} {xs} : ∀ b ∈ muts F (w.iTo m xs), b = m ∨ b ∈ muts F (w.add m) := by
  intro b h
  simp only [muts, List.mem_cons] at h ⊢
  rcases h with h | h | h | h
  · exact .inr (.inl h)
  · exact .inl h
  · exact .inr (.inr (.inr (.inl h)))
  · exact .inr (.inr (.inr (.inr (.inr h))))
theorem muts_swapZ {w : Wd} {m : Nat} {zl} : ∀ b ∈ muts F (w.zTo m zl), b = m ∨ b ∈ muts F (w.add m) := by
  intro b h
  simp only [muts, List.mem_cons] at h ⊢
  rcases h with h | h | h | h
  · exact .inr (.inl h)
  · exact .inr (.inr (.inl h))
  · exact .inl h
  · exact .inr (.inr (.inr (.inr (.inr h))))
theorem Ok.instI (O : Ok F (w.add m) σ) {xs : List (Option Sc)} (hm : σ m = some (.list (xs.map itemV))) {wk : Nat} (h : σ F.arr = some (.inst 78 (arF 3 1 wk w.I))) :
    Ok F (w.iTo m xs) (σ.put F.arr (.inst 78 (arF 3 1 wk m))) ∧ At_ F (w.iTo m xs) (σ.put F.arr (.inst 78 (arF 3 1 wk m))) w.I (.list (w.xs.map itemV)) := by
  obtain ⟨lm, h1⟩ := O.hp
  obtain ⟨cs, h7, _⟩ := O.C
  have nd := O.nd
  simp only [muts, List.nodup_cons, List.mem_cons, not_or] at nd
  have im : ∀ {b x}, σ b = some x → imm x = true → (σ.put F.arr (.inst 78 (arF 3 1 wk m))) b = some x := fun e j => put_at h e fun z => by rw [← z] at j; cases j
  refine ⟨O.re (fun b x B => ⟨im B.at_ B.im, B.im, ?_⟩) rfl ⟨lm, put_cl h h1 rfl⟩ ⟨wk, put_eq⟩ (im hm rfl) (im O.Z rfl) ?_ (fun b z => let ⟨x, e, j⟩ := O.own b (.tail _ z); ⟨x, im e j, j⟩) (fun b n fs q => ?_) ((im h7 rfl).trans h7.symm), ⟨im O.I rfl, rfl, ?_⟩⟩
  · have := B.ne
    simp only [muts, List.mem_cons, not_or] at this ⊢
    exact ⟨this.1, this.2.2.2.1, this.2.2.1, this.2.2.2.2⟩
  · simp only [muts, List.nodup_cons, List.mem_cons, not_or]
    exact ⟨⟨nd.1.2.2.1, nd.1.2.1, nd.1.2.2.2⟩, ⟨fun e => nd.2.2.1.1 e.symm, nd.2.2.2.1⟩, nd.2.2.1.2, nd.2.2.2.2⟩
  · rcases q with q | q
    · exact (put_cl h q rfl).trans q.symm
    · exact (put_nu h q (by show (3 : Int) ≠ 2; decide)).trans q.symm
  · simp only [muts, List.mem_cons, not_or]
    exact ⟨fun e => nd.1.1 e.symm, nd.2.1.2.1, nd.2.1.1, nd.2.1.2.2⟩
theorem Ok.instZ (O : Ok F (w.add m) σ) {zl : List Sc} (hm : σ m = some (.list (zl.map Sc.v))) {lm : AV} (h : σ F.hp = some (.inst 218 (hpF lm w.last w.Z))) :
    Ok F (w.zTo m zl) (σ.put F.hp (.inst 218 (hpF lm w.last m))) := by
  obtain ⟨ka, h4⟩ := O.arr
  obtain ⟨cs, h7, _⟩ := O.C
  have nd := O.nd
  simp only [muts, List.nodup_cons, List.mem_cons, not_or] at nd
  have im : ∀ {b x}, σ b = some x → imm x = true → (σ.put F.hp (.inst 218 (hpF lm w.last m))) b = some x := fun e j => put_at h e fun z => by rw [← z] at j; cases j
  refine O.re (fun b x B => ⟨im B.at_ B.im, B.im, ?_⟩) rfl ⟨lm, put_eq⟩ ⟨ka, put_cl h h4 rfl⟩ (im O.I rfl) (im hm rfl) ?_ (fun b z => let ⟨x, e, j⟩ := O.own b (.tail _ z); ⟨x, im e j, j⟩) (fun b n fs q => ?_) ((im h7 rfl).trans h7.symm)
  · have := B.ne
    simp only [muts, List.mem_cons, not_or] at this ⊢
    exact ⟨this.1, this.2.1, this.2.2.2.1, this.2.2.2.2⟩
  · simp only [muts, List.nodup_cons, List.mem_cons, not_or]
    exact ⟨⟨nd.1.1, nd.1.2.2.1, nd.1.2.2.2⟩, ⟨nd.2.1.2.1, nd.2.1.2.2⟩, nd.2.2.2.1, nd.2.2.2.2⟩
  · rcases q with q | q <;> exact (put_cl h q rfl).trans q.symm
end
end
section
set_option tactic.hygienic false
open PySem PySem.W
theorem if_t {P R : Prop} {b : Bool} (h : b = true) (q : P) : (b = true → P) ∧ (b = false → R) := ⟨fun Ω => q, fun e => nomatch h.symm.trans e⟩
theorem if_f {P R : Prop} {b : Bool} (h : b = false) (q : R) : (b = true → P) ∧ (b = false → R) := ⟨fun e => (nomatch h.symm.trans e), fun Ω => q⟩
section
variable {σ : AH} {Q : AV → AH → Prop} {E : EX} {k : Nat} {a C D : Nat} {v : AV}
theorem isI_t {fs} (h : σ a = some (.inst D fs)) (e : (D == C) = true) (q : Q (.bool true) σ) : sem1 (.isI C) (.ref a) Q σ := ⟨fun l e' => ⟨D, fs, by cases e'; exact h, e ▸ q⟩, fun z => (z a rfl).elim⟩
theorem isI_f {fs} (h : σ a = some (.inst D fs)) (e : (D == C) = false) (q : Q (.bool false) σ) : sem1 (.isI C) (.ref a) Q σ := ⟨fun l e' => ⟨D, fs, by cases e'; exact h, e ▸ q⟩, fun z => (z a rfl).elim⟩
theorem isI_v (h : ∀ l, v ≠ .ref l) (q : Q (.bool false) σ) : sem1 (.isI C) v Q σ := ⟨fun l e => (h l e).elim, fun Ω => q⟩
theorem isN_t (q : Q (.bool true) σ) : sem1 .isN .none Q σ := ⟨fun Ω => q, fun z => (z rfl).elim⟩
theorem isN_f (h : v ≠ .none) (q : Q (.bool false) σ) : sem1 .isN v Q σ := ⟨fun e => (h e).elim, fun Ω => q⟩
theorem isNN_t (h : v ≠ .none) (q : Q (.bool true) σ) : sem1 .isNN v Q σ := ⟨fun e => (h e).elim, fun Ω => q⟩
theorem isNN_f (q : Q (.bool false) σ) : sem1 .isNN .none Q σ := ⟨fun Ω => q, fun z => (z rfl).elim⟩
end
section
variable {F : Fx} {w w' w'' : Wd} {σ σ' σ'' : AH} {Q : AV → AH → Prop} {E : EX} {n : Nat}
theorem evs_nil {Φ : Nat → List AV → PT} {ρ : Loc} {Q : List AV → AH → Prop} {E : EX} (h : Q [] σ) : evs Φ .nil ρ Q E σ := h
theorem Step.pd {pd : List D} : Step F w σ (w.pdTo pd) σ := ⟨_root_.rfl, fun Ω Ω x => ⟨x.1, x.2, x.3⟩, fun Ω Ω => _root_.rfl⟩
theorem vN {a : Nat} : AV.ref a ≠ .none := nofun
theorem value_of_sc {a i c wk v} (h : σ a = some (.inst 59 (scF i c wk v))) (q : Q v σ) : callF fi (n+1) 8 [.ref a] Q E σ :=
  ⟨_, _, rfl, rfl, _, rfl, isI_t h rfl ⟨_, rfl, if_f rfl ⟨_, rfl, _, _, _, _, rfl, h, rfl, isNN_f ⟨_, rfl, if_f rfl ⟨_, rfl, _, _, _, _, rfl, h, rfl, q⟩⟩⟩⟩⟩
theorem value_of_v {v} (h : ∀ l, v ≠ .ref l) (q : Q v σ) : callF fi (n+1) 8 [v] Q E σ :=
  ⟨_, _, rfl, rfl, _, rfl, isI_v h ⟨_, rfl, if_t rfl ⟨_, rfl, q⟩⟩⟩
theorem hold_ok {u : AV} {a C : Nat} {fs : List (Nat × AV)} {c : Int} (h : σ a = some (.inst C fs)) (hf : getF fs 1 = some (.int c)) (hl : fs.length ≤ 100)
    (q : Q .none (σ.put a (.inst C (setF fs 1 (.int (c + 1)))))) : callF fi (n+1) 40 [u, .ref a] Q E σ :=
  ⟨_, _, rfl, rfl, _, rfl, _, _, _, _, rfl, h, hf, _, _, h, hl, rfl, trivial, q⟩
theorem getF_setF {fs : List (Nat × AV)} {f : Nat} {v : AV} : getF (setF fs f v) f = some v := by
  induction fs with
  | nil => exact if_pos rfl
  | cons p r ih =>
    obtain ⟨g, u⟩ := p
    simp only [setF]
    split
    · rename_i h; simp only [getF, if_pos h]
    · rename_i h; simp only [getF, if_neg h]; exact ih
theorem let_go_ok {u : AV} {a C : Nat} {fs : List (Nat × AV)} {c : Int} (h : σ a = some (.inst C fs)) (hf : getF fs 1 = some (.int c)) (hl : fs.length ≤ 100) (hc : c ≠ 1)
    (q : Q .none (σ.put a (.inst C (setF fs 1 (.int (c - 1)))))) : callF fi (n+1) 41 [u, .ref a] Q E σ :=
  ⟨_, _, rfl, rfl, _, rfl, _, _, _, _, rfl, h, hf, _, _, h, hl, rfl, trivial, _, rfl, _, _, _, _, rfl, put_eq, getF_setF, _, _, rfl, rfl, _, rfl, if_f (decide_eq_false (show ¬ (c - 1 = 0) by omega)) q⟩
theorem let_go_zero {ct hp Z a C : Nat} {fs : List (Nat × AV)} {cf hf : List (Nat × AV)} {zs : List AV} (h : σ a = some (.inst C fs)) (hf' : getF fs 1 = some (.int 1)) (hl : fs.length ≤ 100)
    (hct : (σ.put a (.inst C (setF fs 1 (.int 0)))) ct = some (.inst 559 cf)) (h1 : getF cf 15 = some (.ref hp)) (hhp : (σ.put a (.inst C (setF fs 1 (.int 0)))) hp = some (.inst 218 hf)) (h2 : getF hf 14 = some (.ref Z))
    (hz : (σ.put a (.inst C (setF fs 1 (.int 0)))) Z = some (.list zs)) (hb : zs.length < lim)
    (q : Q .none ((σ.put a (.inst C (setF fs 1 (.int 0)))).put Z (.list (zs ++ [.ref a])))) : callF fi (n+1) 41 [.ref ct, .ref a] Q E σ :=
  ⟨_, _, rfl, rfl, _, rfl, _, _, _, _, rfl, h, hf', _, _, h, hl, rfl, trivial, _, rfl, _, _, _, _, rfl, put_eq, getF_setF, _, _, rfl, rfl, _, rfl, if_t rfl
    ⟨_, rfl, _, _, _, _, rfl, hct, h1, _, _, _, _, rfl, hhp, h2, ⟨_, _, rfl, hz⟩, _, rfl, _, _, rfl, hz, hb, q⟩⟩
theorem cnt_ge {k : Bool} {p : List D} (h : w.pd = .rf k :: p) : 2 ≤ w.cnt k := by
  have : w.cnt k = (w.pdTo p).cnt k + if k == k then 1 else 0 := by
    rw [← cnt_pd]; exact congrArg (fun z => (w.pdTo z).cnt k) h
  rw [this, if_pos (beq_self_eq_true k)]
  unfold Wd.cnt
  omega
theorem Ok.pdSkip (O : Ok F w σ) {pd : List D} (h : ∀ k, (w.pdTo pd).cnt k = w.cnt k) : Go F w σ (w.pdTo pd) σ :=
  ⟨⟨O.hp, let ⟨P, a, b⟩ := O.ct; ⟨P, ⟨a.1, a.2, a.3⟩, ⟨b.1, b.2, b.3⟩⟩, O.arr, (let ⟨k, e⟩ := O.t0; ⟨k, h _ ▸ e⟩), (let ⟨k, J, e⟩ := O.t1; ⟨k, J, h _ ▸ e⟩), O.I, O.Z, (let ⟨cs, a, b⟩ := O.C; ⟨cs, a, b.mono fun Ω Ω c => c.st .pd⟩), O.nd, O.own,
    fun s m => (O.live s m).st .pd rfl, fun s m => (O.zs s m).st .pd rfl, O.ndn, O.rng⟩, .pd⟩
theorem cnt_not {k : Bool} {p : List D} : (w.pdTo (.rf k :: p)).cnt (!k) = (w.pdTo p).cnt (!k) := by
  have := cnt_pd (w := (w.pdTo p)) (!k) k
  rw [this]; cases k <;> rfl
theorem cnt_non {d : D} {p : List D} {k : Bool} (h : d.isR k = false) : (w.pdTo (d :: p)).cnt k = (w.pdTo p).cnt k := by
  show (1 + ((List.countP (D.isR k) (_ ++ d :: p) : Nat) : Int)) = 1 + ((List.countP (D.isR k) (_ ++ p) : Nat) : Int)
  rw [List.countP_append, List.countP_append, List.countP_cons, h]; rfl
theorem hold_tk (O : Ok F w σ) (k : Bool) {u : AV} (q : ∀ σ', Go F w σ (w.pdTo (.rf k :: w.pd)) σ' → Q .none σ') : callF fi (n+1) 40 [u, .ref (F.tk k)] Q E σ := by
  obtain ⟨wk, J, h⟩ := O.tk k
  have G := O.setTk h (pd := .rf k :: w.pd) cnt_not
  have e : (w.pdTo (.rf k :: w.pd)).cnt k = w.cnt k + 1 := by rw [cnt_pd, beq_self_eq_true]; rfl
  rw [e] at G
  cases k with
  | false => exact hold_ok h rfl (by show (8 : Nat) ≤ 100; decide) (q _ G)
  | true => exact hold_ok h rfl (by show (8 : Nat) ≤ 100; decide) (q _ G)
theorem let_go_tk (O : Ok F w σ) {k : Bool} {p : List D} (hp : w.pd = .rf k :: p) {u : AV} (q : ∀ o, Go F w σ (w.pdTo p) (σ.put (F.tk k) o) → Q .none (σ.put (F.tk k) o)) : callF fi (n+1) 41 [u, .ref (F.tk k)] Q E σ := by
  obtain ⟨wk, J, h⟩ := O.tk k
  have ew : w = (w.pdTo (.rf k :: p)) := by rw [← hp]
  have G := O.setTk h (pd := p) (by conv => rhs; rw [ew, cnt_not])
  have e : w.cnt k = (w.pdTo p).cnt k + 1 := by
    conv => lhs; rw [ew]
    exact (cnt_pd (w := (w.pdTo p)) k k).trans (by rw [beq_self_eq_true]; rfl)
  have e : (w.pdTo p).cnt k = w.cnt k - 1 := by omega
  have g := cnt_ge hp
  rw [e] at G
  cases k with
  | false => exact let_go_ok h rfl (by show (8 : Nat) ≤ 100; decide) (by omega) (q _ G)
  | true => exact let_go_ok h rfl (by show (8 : Nat) ≤ 100; decide) (by omega) (q _ G)
theorem take_ok (O : Ok F w σ) {v d} (V : Vl F w σ v d) (q : ∀ σ', Go F w σ (w.pdTo (d :: w.pd)) σ' → Q v σ') : callF fi (n+2) 42 [.ref F.ct, v] Q E σ := by
  obtain ⟨P, hct, _⟩ := O.ct
  cases V with
  | none => exact ⟨_, _, rfl, rfl, _, rfl, isI_v nofun ⟨_, rfl, if_t rfl ⟨_, rfl, q _ (O.pdSkip fun k => cnt_non rfl)⟩⟩⟩
  | int i => exact ⟨_, _, rfl, rfl, _, rfl, isI_v nofun ⟨_, rfl, if_t rfl ⟨_, rfl, q _ (O.pdSkip fun k => cnt_non rfl)⟩⟩⟩
  | str s hso => exact ⟨_, _, rfl, rfl, _, rfl, isI_v nofun ⟨_, rfl, if_t rfl ⟨_, rfl, q _ (O.pdSkip fun k => cnt_non rfl)⟩⟩⟩
  | @ref r k h =>
    exact ⟨_, _, rfl, rfl, _, rfl, isI_t h.at_ rfl ⟨_, rfl, if_f rfl ⟨_, rfl, _, _, rfl, hct.at_, rfl, _, rfl, _, _, _, _, rfl, h.at_, rfl,
      evs_nil <| hold_tk O k fun σ' G => ⟨_, rfl, _, _, _, _, rfl, (G.st.at_ _ _ h).at_, rfl, _, rfl, if_f rfl ⟨_, rfl, q _ G⟩⟩⟩⟩⟩
theorem put_off_ok (O : Ok F w σ) {v d p} (V : Vl F w σ v d) (hp : w.pd = d :: p) {u : AV} (q : ∀ σ', Go F w σ (w.pdTo p) σ' → (σ' = σ ∨ ∃ k o, σ' = σ.put (F.tk k) o) → Q .none σ') : callF fi (n+2) 43 [.ref F.ct, u, v] Q E σ := by
  obtain ⟨P, hct, _⟩ := O.ct
  have ew : w = (w.pdTo (d :: p)) := by rw [← hp]
  have sk : (∀ k, d.isR k = false) → Go F w σ (w.pdTo p) σ := fun h => O.pdSkip fun k => by conv => rhs; rw [ew, cnt_non (h k)]
  cases V with
  | none => exact ⟨_, _, rfl, rfl, _, rfl, isI_v nofun ⟨_, rfl, if_t rfl (q _ (sk fun Ω => rfl) (.inl rfl))⟩⟩
  | int i => exact ⟨_, _, rfl, rfl, _, rfl, isI_v nofun ⟨_, rfl, if_t rfl (q _ (sk fun Ω => rfl) (.inl rfl))⟩⟩
  | str s hso => exact ⟨_, _, rfl, rfl, _, rfl, isI_v nofun ⟨_, rfl, if_t rfl (q _ (sk fun Ω => rfl) (.inl rfl))⟩⟩
  | @ref r k h =>
    exact ⟨_, _, rfl, rfl, _, rfl, isI_t h.at_ rfl ⟨_, rfl, if_f rfl ⟨_, rfl, _, _, _, _, rfl, h.at_, rfl, _, rfl, if_f rfl ⟨_, rfl, _, _, rfl, hct.at_, rfl, _, rfl, _, _, _, _, rfl, h.at_, rfl,
      evs_nil <| let_go_tk O hp fun o G => q _ G (.inr ⟨k, o, rfl⟩)⟩⟩⟩⟩
end
end
section
set_option tactic.hygienic false
open PySem PySem.W
section
variable {F : Fx} {w w' w'' : Wd} {σ σ' σ'' : AH} {Q : AV → AH → Prop} {E : EX} {n : Nat}
structure Born (σ σ' : AH) (a b : Nat) (o : AO) : Prop where
  new : σ b = none
  ne : b ≠ a
  eq : σ' = (σ.put b (.list [])).put a o
theorem aput_put {a : Nat} {x y : AO} : (σ.put a x).put a y = σ.put a y := by
  funext b; unfold AH.put; by_cases h : b = a <;> simp [h]
theorem aput_comm {a b : Nat} {x y : AO} (h : b ≠ a) : (σ.put a x).put b y = (σ.put b y).put a x := by
  funext c; unfold AH.put; by_cases h1 : c = a <;> by_cases h2 : c = b <;> simp [h1, h2]
  all_goals intro e
  all_goals first | exact (h e).elim | exact (h e.symm).elim
theorem Born.at_ {a b o} (B : Born σ σ' a b o) : σ' a = some o := by rw [B.eq]; exact put_eq
theorem thing_init {a C : Nat} {i : Int} (h : σ a = some (.inst C [])) (q : ∀ σ' b, Born σ σ' a b (.inst C [(0, .int i), (1, .int 0), (2, .none), (3, .ref b), (4, .bool false), (5, .bool false)]) → Q .none σ') : callF fi (n+1) 0 [.ref a, .int i] Q E σ :=
  ⟨_, _, rfl, rfl, _, rfl, _, rfl, _, _, _, rfl, h, Nat.zero_le _, _, rfl, _, _, _, rfl, put_eq, (Nat.le_of_ble_eq_true rfl), _, rfl, _, _, _, rfl, put_eq, (Nat.le_of_ble_eq_true rfl), Nat.zero_le _, fun b hb =>
    have ne : b ≠ a := fun e => by rw [e, put_eq] at hb; cases hb
    ⟨_, rfl, _, _, _, rfl, (put_ne ne.symm).trans put_eq, (Nat.le_of_ble_eq_true rfl), _, rfl, _, _, _, rfl, put_eq, (Nat.le_of_ble_eq_true rfl), _, rfl, _, _, _, rfl, put_eq, (Nat.le_of_ble_eq_true rfl),
      q _ b ⟨by rw [aput_put, aput_put, put_ne ne] at hb; exact hb, ne, by rw [aput_put, aput_put, aput_put, aput_put, aput_comm ne, aput_put]; rfl⟩⟩⟩
theorem scalar_init {a : Nat} {i : Int} {v : AV} (h : σ a = some (.inst 59 [])) (q : ∀ σ' b, Born σ σ' a b (.inst 59 (scF i 0 b v)) → Q .none σ') : callF fi (n+2) 1 [.ref a, .int i, v] Q E σ :=
  ⟨_, _, rfl, rfl, _, rfl, _, rfl, evs_nil <| thing_init h fun σ' b B => ⟨_, rfl, _, rfl, _, _, _, rfl, B.at_, (Nat.le_of_ble_eq_true rfl), _, rfl, _, _, _, rfl, put_eq, (Nat.le_of_ble_eq_true rfl),
    q _ b ⟨B.new, B.ne, by rw [aput_put, B.eq, aput_put]; rfl⟩⟩⟩
theorem array_init {a : Nat} {i : Int} (h : σ a = some (.inst 78 [])) (q : ∀ σ' b c, σ b = none → b ≠ a → (σ.put b (.list [])) c = none → c ≠ a → σ' = ((σ.put b (.list [])).put c (.list [])).put a (.inst 78 (arF i 0 b c)) → Q .none σ') : callF fi (n+2) 2 [.ref a, .int i] Q E σ :=
  ⟨_, _, rfl, rfl, _, rfl, _, rfl, evs_nil <| thing_init h fun σ' b B => ⟨Nat.zero_le _, fun c hc =>
    have ne : c ≠ a := fun e => by rw [e, B.eq, put_eq] at hc; cases hc
    ⟨_, rfl, _, _, _, rfl, (put_ne ne.symm).trans B.at_, (Nat.le_of_ble_eq_true rfl), _, rfl, _, _, _, rfl, put_eq, (Nat.le_of_ble_eq_true rfl),
    q _ b c B.new B.ne (by rw [B.eq, put_ne ne] at hc; exact hc) ne (by rw [aput_put, B.eq, aput_comm ne, aput_put]; rfl)⟩⟩⟩
theorem next_number {a : Nat} {fs : List (Nat × AV)} {l : Int} (h : σ a = some (.inst 218 fs)) (hf : getF fs 13 = some (.int l)) (hl : fs.length ≤ 100) (q : Q (.int (l + 1)) (σ.put a (.inst 218 (setF fs 13 (.int (l + 1)))))) : callF fi (n+1) 5 [.ref a] Q E σ :=
  ⟨_, _, rfl, rfl, _, rfl, _, _, _, _, rfl, h, hf, _, _, h, hl, rfl, trivial, _, rfl, _, _, _, _, rfl, put_eq, getF_setF, q⟩
theorem new_scalar {a : Nat} {fs : List (Nat × AV)} {l : Int} {v : AV} (h : σ a = some (.inst 218 fs)) (hf : getF fs 13 = some (.int l)) (hm : getF fs 23 = none) (hl : fs.length ≤ 100)
    (q : ∀ s b, (σ.put a (.inst 218 (setF fs 13 (.int (l + 1))))) s = none → (σ.put a (.inst 218 (setF fs 13 (.int (l + 1))))) b = none → b ≠ s → Q (.ref s) (((σ.put a (.inst 218 (setF fs 13 (.int (l + 1))))).put b (.list [])).put s (.inst 59 (scF (l + 1) 0 b v)))) : callF fi (n+3) 6 [.ref a, v] Q E σ :=
  ⟨_, _, rfl, rfl, _, rfl, _, _, rfl, h, hm, evs_nil <| next_number h hf hl ⟨_, rfl, fun s hs => scalar_init put_eq fun σ' b B =>
    ⟨rfl, have nb := B.new; by rw [put_ne B.ne] at nb; have := q s b hs nb B.ne; rw [B.eq, aput_comm B.ne, aput_put]; exact this⟩⟩⟩
theorem new_array {a : Nat} {fs : List (Nat × AV)} {l : Int} (h : σ a = some (.inst 218 fs)) (hf : getF fs 13 = some (.int l)) (hm : getF fs 23 = none) (hl : fs.length ≤ 100)
    (q : ∀ s b c σ', (σ.put a (.inst 218 (setF fs 13 (.int (l + 1))))) s = none → σ' = ((((σ.put a (.inst 218 (setF fs 13 (.int (l + 1))))).put b (.list [])).put c (.list []))).put s (.inst 78 (arF (l + 1) 0 b c)) → (σ.put a (.inst 218 (setF fs 13 (.int (l + 1))))) b = none → b ≠ s →
      ((σ.put a (.inst 218 (setF fs 13 (.int (l + 1))))).put b (.list [])) c = none → c ≠ s → Q (.ref s) σ') : callF fi (n+3) 7 [.ref a] Q E σ :=
  ⟨_, _, rfl, rfl, _, rfl, _, _, rfl, h, hm, evs_nil <| next_number h hf hl fun s hs => array_init put_eq fun σ' b c h1 h2 h3 h4 e =>
    ⟨rfl, by
      rw [put_ne h2] at h1
      rw [aput_comm h2, put_ne h4] at h3
      exact q s b c σ' hs (by rw [e, aput_comm h2, aput_comm h4, aput_put]) h1 h2 h3 h4⟩⟩
theorem Ok.newSc (O : Ok F w σ) {a b i v d p} (h : σ a = none) (B : At_ F w σ b (.list [])) (V : Vl F w σ v d) (hp : w.pd = d :: p) (hn : ∀ s ∈ w.live ++ w.zs, s.n < i) (h3 : 3 < i) (hl : i ≤ w.last) :
    Go F w σ (w.plTo p (⟨a, i, d⟩ :: w.live)) (σ.put a (.inst 59 (scF i 1 b v))) := by
  have G := O.new h (.inst 59 (scF i 1 b v))
  have N := G.ok
  have ew : w = (w.pdTo (d :: p)) := by rw [← hp]
  have hc : ∀ k, (w.plTo p (⟨a, i, d⟩ :: w.live)).cnt k = w.cnt k := cnt_perm (by
    rw [hp]; exact List.perm_middle)
  have S : Step F w (σ.put a (.inst 59 (scF i 1 b v))) (w.plTo p (⟨a, i, d⟩ :: w.live)) (σ.put a (.inst 59 (scF i 1 b v))) := ⟨rfl, fun Ω Ω x => ⟨x.1, x.2, x.3⟩, fun Ω Ω => rfl⟩
  refine ⟨⟨N.hp, let ⟨P, a, b⟩ := N.ct; ⟨P, ⟨a.1, a.2, a.3⟩, ⟨b.1, b.2, b.3⟩⟩, N.arr, (let ⟨k, e⟩ := N.t0; ⟨k, hc _ ▸ e⟩), (let ⟨k, J, e⟩ := N.t1; ⟨k, J, hc _ ▸ e⟩), N.I, N.Z, (let ⟨cs, a, b⟩ := N.C; ⟨cs, a, b.mono fun Ω Ω c => c.st S⟩), N.nd, N.own,
    fun s m => ?_, fun s m => (N.zs s m).st S rfl, ?_, fun s m => ?_⟩, G.st.trans S⟩
  · rcases List.mem_cons.mp m with e | m
    · subst e; exact ⟨b, v, put_eq, (V.st G.st).st S, S.at_ _ _ (G.st.at_ _ _ B)⟩
    · exact (N.live s m).st S rfl
  · show (i :: (w.live ++ w.zs).map Sc.n).Nodup
    refine List.nodup_cons.mpr ⟨fun m => ?_, O.ndn⟩
    obtain ⟨s, hs, e⟩ := List.mem_map.mp m
    have := hn s hs
    lia
  · rcases List.mem_cons.mp m with e | m
    · subst e; exact ⟨h3, hl⟩
    · exact O.rng s m
theorem fresh_ok (O : Ok F w σ) (h3 : 3 ≤ w.last) {v d} (V : Vl F w σ v d) (q : ∀ s σ', s.d = d → Go F w σ (w.frTo (w.last + 1) (s :: w.live)) σ' → Q (.ref s.a) σ') : callF fi (n+4) 45 [.ref F.ct, v] Q E σ := by
  obtain ⟨P, hct, _⟩ := O.ct
  obtain ⟨lm, hhp⟩ := O.hp
  refine ⟨_, _, rfl, rfl, _, rfl, _, _, _, _, rfl, hct.at_, rfl, _, _, rfl, hhp, rfl, _, rfl, _, _, rfl, hct.at_, rfl, _, rfl, evs_nil <| take_ok O V fun σ₁ G₁ => ?_⟩
  obtain ⟨lm', hhp'⟩ := G₁.ok.hp
  have G₂ := G₁.ok.setLast hhp' (show w.last ≤ w.last + 1 by lia)
  refine evs_nil <| new_scalar hhp' rfl rfl (Nat.le_of_ble_eq_true rfl) fun s b hs hb ne => ?_
  have G₃ := G₂.ok.new hb (.list [])
  have B := G₂.ok.newAt hb (show imm (.list []) = true from rfl)
  have G := G₁.trans (G₂.trans G₃)
  have G₄ := G₃.ok.newSc (i := w.last + 1) ((put_ne ne.symm).trans hs) B (V.st G.st) rfl (fun s m => by have := (G₁.ok.rng s m).2; show s.n < w.last + 1; have e : s.n ≤ w.last := this; lia) (by lia) (Int.le_refl _)
  refine ⟨_, rfl, _, _, _, rfl, put_eq, (Nat.le_of_ble_eq_true rfl), _, rfl, ?_⟩
  rw [aput_put]
  exact q ⟨s, _, d⟩ _ rfl (G.trans G₄)
end
end
section
set_option tactic.hygienic false
open PySem PySem.W
noncomputable def valO : Option Sc → D
  | none => .none
  | some s => s.d
section
variable {F : Fx} {w w' w'' : Wd} {σ σ' σ'' : AH} {Q : AV → AH → Prop} {E : EX} {n : Nat}
theorem Ok.apart (O : Ok F w σ) {s : Sc} {r : List Sc} (h : (w.live ++ w.zs).Perm (s :: r)) : ∀ t ∈ r, t.n ≠ s.n := fun t m e => by
  have := (h.map Sc.n).nodup_iff.mp O.ndn
  exact (List.nodup_cons.mp this).1 (e ▸ List.mem_map_of_mem m)
theorem Ok.zero (O : Ok F w σ) {s : Sc} {l : List Sc} (hl : w.live.Perm (s :: l)) {wk v} (h : σ s.a = some (.inst 59 (scF s.n 1 wk v))) (V : Vl F w σ v s.d) (B : At_ F w σ wk (.list [])) :
    Go F w σ (w.lzTo l (s :: w.zs)) (σ.put s.a (.inst 59 (scF s.n 0 wk v))) := by
  have pm : (w.live ++ w.zs).Perm (l ++ s :: w.zs) := (hl.append_right w.zs).trans List.perm_middle.symm
  have ap := O.apart (hl.append_right w.zs)
  have ms : s ∈ w.live ++ w.zs := pm.mem_iff.mpr (List.mem_append_right _ (.head _))
  have S : Step F w σ (w.lzTo l (s :: w.zs)) (σ.put s.a (.inst 59 (scF s.n 0 wk v))) := O.mutStep h rfl rfl fun b z => z
  refine O.setSc ms rfl rfl (cnt_perm ((pm.map _).append_right _)) ((pm.map Sc.n).nodup_iff.mp O.ndn) (fun t m => O.rng t (pm.mem_iff.mpr m)) (fun t m => .inl ⟨ap t (List.mem_append_left _ m), hl.mem_iff.mpr (.tail _ m)⟩) fun t m => ?_
  rcases List.mem_cons.mp m with e | m
  · subst e; exact .inr ⟨wk, v, put_eq, V.st S, S.at_ _ _ B⟩
  · exact .inl ⟨ap t (List.mem_append_right _ m), m⟩
theorem drop_ok (O : Ok F w σ) {s : Sc} {l : List Sc} (hl : w.live.Perm (s :: l)) (hb : w.zl.length < lim) (q : ∀ σ', Go F w σ (w.dropTo l (s :: w.zs) (w.zl ++ [s])) σ' → Q .none σ') : callF fi (n+2) 46 [.ref F.ct, .ref s.a] Q E σ := by
  obtain ⟨P, hct, _⟩ := O.ct
  obtain ⟨wk, v, h, V, B⟩ := (O.live s (hl.mem_iff.mpr (.head _))).ex
  have G := O.zero hl h V B
  obtain ⟨lm, hhp⟩ := G.ok.hp
  refine ⟨_, _, rfl, rfl, _, rfl, _, _, rfl, hct.at_, rfl, _, rfl, evs_nil <| let_go_zero h rfl (Nat.le_of_ble_eq_true rfl) (G.st.at_ _ _ hct).at_ rfl hhp rfl G.ok.Z (by rw [List.length_map]; exact hb) ?_⟩
  have G₂ := G.ok.setZero (w.zl ++ [s])
  rw [List.map_append] at G₂
  exact q _ (G.trans G₂)
theorem At_.same {a o} (h : At_ F w σ a o) (e : muts F w' = muts F w) : At_ F w' σ a o := ⟨h.1, h.2, e ▸ h.3⟩
theorem Vl.same {v d} (h : Vl F w σ v d) (e : muts F w' = muts F w) : Vl F w' σ v d := by
  cases h with
  | none => exact .none
  | int i => exact .int i
  | str s h => exact .str s h
  | ref h => exact .ref (h.same e)
theorem All2.append {α β : Type} {R : α → β → Prop} {as bs cs ds} (h : All2 R as bs) (k : All2 R cs ds) : All2 R (as ++ cs) (bs ++ ds) := by
  induction h with
  | nil => exact k
  | cons a _ ih => exact .cons a ih
theorem perm_re (O : Ok F w σ) {l : List Sc} (h : w.live.Perm l) : Go F w σ (w.liveTo l) σ := by
  have S : Step F w σ (w.liveTo l) σ := ⟨rfl, fun Ω Ω x => ⟨x.1, x.2, x.3⟩, fun Ω Ω => rfl⟩
  have pm : (w.live ++ w.zs).Perm (l ++ w.zs) := h.append_right _
  have hc : ∀ k, (w.liveTo l).cnt k = w.cnt k := cnt_perm ((pm.map Sc.d).append_right _)
  exact ⟨⟨O.hp, let ⟨P, a, b⟩ := O.ct; ⟨P, ⟨a.1, a.2, a.3⟩, ⟨b.1, b.2, b.3⟩⟩, O.arr, (let ⟨k, e⟩ := O.t0; ⟨k, hc _ ▸ e⟩), (let ⟨k, J, e⟩ := O.t1; ⟨k, J, hc _ ▸ e⟩), O.I, O.Z, (let ⟨cs, a, b⟩ := O.C; ⟨cs, a, b.mono fun Ω Ω c => c.st S⟩), O.nd, O.own,
      fun s m => (O.live s (h.mem_iff.mpr m)).st S rfl, fun s m => (O.zs s m).st S rfl, (pm.map Sc.n).nodup_iff.mp O.ndn, fun s m => O.rng s (pm.mem_iff.mpr m)⟩, S⟩
theorem drop_member_ok (O : Ok F w σ) {m : Option Sc} {l : List Sc} (hl : w.live.Perm (m.toList ++ l)) (hb : w.zl.length < lim) (q : ∀ σ' v, Vl F w σ v (valO m) → Go F w σ (w.dropTo l (m.toList ++ w.zs) (w.zl ++ m.toList)) σ' → Q v σ') :
    callF fi (n+3) 10 [.ref F.ct, itemV m] Q E σ := by
  obtain ⟨P, hct, _⟩ := O.ct
  cases m with
  | none =>
    have G : Go F w σ (w.dropTo l w.zs (w.zl ++ [])) σ := by rw [List.append_nil]; exact perm_re O hl
    exact ⟨_, _, rfl, rfl, _, rfl, isN_t ⟨_, rfl, if_t rfl (q _ .none .none G)⟩⟩
  | some s =>
    obtain ⟨wk, v, h, V, B⟩ := (O.live s (hl.mem_iff.mpr (.head _))).ex
    exact ⟨_, _, rfl, rfl, _, rfl, isN_f vN ⟨_, rfl, if_f rfl ⟨_, rfl, evs_nil <| value_of_sc h ⟨_, rfl, _, _, rfl, hct.at_, rfl, _, rfl, evs_nil <| drop_ok O hl hb fun σ' G => ⟨_, rfl, q _ v V G⟩⟩⟩⟩⟩
theorem comp_ind {turn : AV → PT} {l : Nat} {xs : List AV} (P : List AV → List AV → AH → Prop) (step : ∀ v r ys σ, P (v :: r) ys σ → ∀ Q', (∀ y σ', P r (ys ++ [y]) σ' → Q' y σ') → turn v Q' E σ)
    (hl : ∀ r ys σ, P r ys σ → σ l = some (.list xs)) (fin : ∀ ys σ, P [] ys σ → ∀ a, σ a = none → Q (.ref a) (σ.put a (.list ys))) : ∀ {r ys σ}, P r ys σ → compL turn l xs Q E r ys σ
  | [], ys, σ, h => ⟨hl _ _ _ h, fin _ _ h⟩
  | v :: r, ys, σ, h => ⟨hl _ _ _ h, step v r ys σ h _ fun y σ' h' => comp_ind P step hl fin h'⟩
theorem fresh_scalars_ok (O : Ok F w σ) (h3 : 3 ≤ w.last) {l : Nat} {vs : List AV} {ds : List D} (L : At_ F w σ l (.list vs)) (V : All2 (Vl F w σ) vs ds) (hb : vs.length ≤ lim)
    (q : ∀ σ' ss a, ss.map Sc.d = ds → Go F w σ (w.frTo (w.last + (ss.length : Nat)) (ss ++ w.live)) σ' → σ' a = none → Q (.ref a) (σ'.put a (.list (ss.map Sc.v)))) : callF fi (n+5) 9 [.ref F.ct, .ref l] Q E σ := by
  obtain ⟨P, hct, _⟩ := O.ct
  refine ⟨_, _, rfl, rfl, _, rfl, _, _, rfl, L.at_, hb, comp_ind (fun r ys σ' => ∃ ds' ss, All2 (Vl F w σ) r ds' ∧ ys = ss.map Sc.v ∧ ss.map Sc.d ++ ds' = ds ∧ Go F w σ (w.frTo (w.last + (ss.length : Nat)) (ss ++ w.live)) σ') ?_ ?_ ?_ ⟨ds, [], V, rfl, rfl, by
    rw [show w.last + (([] : List Sc).length : Nat) = w.last from Int.add_zero _]; exact .refl O⟩⟩
  · rintro v r ys σ₁ ⟨ds', ss, hv, rfl, e, G⟩ Q' k
    cases hv with
    | @cons _ d _ ds'' a b =>
      refine ⟨_, rfl, _, _, rfl, (G.st.at_ _ _ hct).at_, rfl, _, rfl, evs_nil <| fresh_ok G.ok (by show 3 ≤ w.last + _; lia) (a.st G.st) fun s σ₂ hs G₂ => k _ _ ⟨ds'', ss ++ [s], b, by rw [List.map_append]; rfl, by rw [List.map_append, ← e, List.append_assoc, ← hs]; rfl, ?_⟩⟩
      have G₃ := (G.trans G₂).trans (perm_re G₂.ok (l := (ss ++ [s]) ++ w.live) (by rw [List.append_assoc]; exact List.perm_middle.symm))
      rw [show w.last + ((ss ++ [s]).length : Nat) = w.last + (ss.length : Nat) + 1 by rw [List.length_append]; show _ + ((_ + 1 : Nat) : Int) = _; lia]
      exact G₃
  · rintro r ys σ₁ ⟨ds', ss, hv, rfl, e, G⟩
    exact (G.st.at_ _ _ L).at_
  · rintro ys σ₁ ⟨ds', ss, hv, rfl, e, G⟩ a ha
    cases hv
    exact q _ ss a (by rw [← e, List.append_nil]) G ha
theorem drop_members_ok (O : Ok F w σ) {m : Nat} {ms : List (Option Sc)} {l : List Sc} (L : At_ F w σ m (.list (ms.map itemV))) (hl : w.live.Perm (ms.filterMap id ++ l)) (hb : w.zl.length + ms.length ≤ lim)
    (q : ∀ σ' us a, All2 (Vl F w σ') us (ms.map valO) → Go F w σ (w.dropTo l ((ms.filterMap id).reverse ++ w.zs) (w.zl ++ ms.filterMap id)) σ' → σ' a = none → Q (.ref a) (σ'.put a (.list us))) : callF fi (n+4) 11 [.ref F.ct, .ref m] Q E σ := by
  obtain ⟨P, hct, _⟩ := O.ct
  refine ⟨_, _, rfl, rfl, _, rfl, _, _, rfl, L.at_, by rw [List.length_map]; lia, comp_ind (fun r ys σ' => ∃ m₁ m₂ us, r = m₂.map itemV ∧ ms = m₁ ++ m₂ ∧ ys = us ∧
    Go F w σ (w.dropTo (m₂.filterMap id ++ l) ((m₁.filterMap id).reverse ++ w.zs) (w.zl ++ m₁.filterMap id)) σ' ∧ All2 (Vl F (w.dropTo (m₂.filterMap id ++ l) ((m₁.filterMap id).reverse ++ w.zs) (w.zl ++ m₁.filterMap id)) σ') us (m₁.map valO)) ?_ ?_ ?_ ⟨[], ms, [], rfl, rfl, rfl, ?_, .nil⟩⟩
  · rintro v r ys σ₁ ⟨m₁, m₂, us, e1, rfl, rfl, G, V⟩ Q' k
    cases m₂ with
    | nil => cases e1
    | cons x m₂ =>
      cases e1
      refine ⟨_, rfl, _, rfl, evs_nil <| drop_member_ok (l := m₂.filterMap id ++ l) G.ok ?_ ?_ fun σ₂ v V₂ G₂ => k _ _ ⟨m₁ ++ [x], m₂, _, rfl, by rw [List.append_assoc]; rfl, rfl, ?_⟩⟩
      · cases x <;> exact .refl _
      · show (w.zl ++ _).length < lim
        have := List.length_filterMap_le id m₁
        rw [List.length_append] at hb ⊢
        rw [List.length_cons] at hb
        lia
      · have e : ∀ z : List Sc, x.toList ++ ((m₁.filterMap id).reverse ++ z) = ((m₁ ++ [x]).filterMap id).reverse ++ z := fun z => by cases x <;> simp
        have e2 : w.zl ++ m₁.filterMap id ++ x.toList = w.zl ++ (m₁ ++ [x]).filterMap id := by cases x <;> simp
        have G₃ := G.trans G₂
        rw [← e, ← e2]
        refine ⟨G₃, ?_⟩
        rw [List.map_append]
        exact (V.mono fun Ω Ω h => h.st G₂.st).append (.cons (V₂.st G₂.st) .nil)
  · rintro r ys σ₁ ⟨m₁, m₂, us, e1, e, rfl, G, V⟩
    exact (G.st.at_ _ _ L).at_
  · rintro ys σ₁ ⟨m₁, m₂, us, e1, rfl, rfl, G, V⟩ a ha
    cases m₂ with
    | cons x m₂ => cases e1
    | nil =>
      rw [List.append_nil] at q
      exact q _ _ _ (V.mono fun Ω Ω h => h.same (w' := w) rfl) G ha
  · have := perm_re O hl
    rw [show (w.zl ++ ([] : List (Option Sc)).filterMap id) = w.zl from List.append_nil _]
    exact this
end
end
section
set_option tactic.hygienic false
open PySem PySem.W
noncomputable def plc (n : Nat) (i : Int) : Int := if i < 0 then (if i + n < 0 then -1 else i + n) else i
noncomputable def atI {α : Type} (l : List (Option α)) (i : Int) : Option α := if plc l.length i < 0 then none else l[(plc l.length i).toNat]?.join
noncomputable def xv (w : Wd) : List (Option D) := w.xs.map (Option.map Sc.d)
noncomputable def od : Option D → D
  | none => .none
  | some d => d
structure Nice (w : Wd) : Prop where
  full : w.live.Perm (w.xs.filterMap id)
  zp : w.zl.Perm w.zs
  pd : w.pd = []
  h3 : 3 ≤ w.last
structure Small (w : Wd) : Prop where
  xs : w.xs.length ≤ 1000
  last : w.last ≤ 1000
section
variable {F : Fx} {w w' w'' : Wd} {σ σ' σ'' : AH} {Q : AV → AH → Prop} {E : EX} {n : Nat}
theorem plc_of {n : Nat} {i p : Int} (hp : p = (if i < 0 then i + n else i)) (h : 0 ≤ p) : plc n i = p := by
  unfold plc
  by_cases c : i < 0
  · rw [if_pos c] at hp ⊢
    rw [← hp, if_neg (Int.not_lt.mpr h)]
  · rw [if_neg c] at hp ⊢
    exact hp.symm
theorem plc_val {n : Nat} {i : Int} (h : 0 ≤ plc n i) : plc n i = (if i < 0 then i + n else i) := by
  unfold plc at h ⊢
  by_cases c : i < 0
  · rw [if_pos c] at h ⊢
    rw [if_pos c]
    by_cases d : i + n < 0
    · rw [if_pos d] at h; exact absurd h (by decide)
    · rw [if_neg d]
  · rw [if_neg c, if_neg c]
theorem plc_place {N : Nat} {i : Int} (h : 0 ≤ plc N i) (h2 : plc N i < N) : place N (plc N i) = some (plc N i).toNat := by
  unfold place; rw [if_pos h, if_pos h2]
theorem atI_map {α β : Type} (f : α → β) (l : List (Option α)) (i : Int) : atI (l.map (Option.map f)) i = (atI l i).map f := by
  unfold atI
  rw [List.length_map, List.getElem?_map]
  split
  · rfl
  · cases l[(plc l.length i).toNat]? with
    | none => rfl
    | some o => cases o <;> rfl
theorem valO_od (o : Option Sc) : valO o = od (o.map Sc.d) := by cases o <;> rfl
theorem Nice.mem (N : Nice w) {s : Sc} (h : some s ∈ w.xs) : s ∈ w.live := N.full.mem_iff.mpr (List.mem_filterMap.mpr ⟨_, h, rfl⟩)
theorem mem_of_at {l : List (Option Sc)} {i : Int} {s : Sc} (h : atI l i = some s) : some s ∈ l := by
  unfold atI at h
  split at h
  · cases h
  · exact List.mem_of_getElem? (Option.join_eq_some_iff.mp h)
theorem len_lim (S : Small w) : (w.xs.map itemV).length ≤ lim := by rw [List.length_map]; exact Nat.le_trans S.xs (Nat.le_of_ble_eq_true rfl)
theorem len_eq {α β : Type} {f : α → β} {l : List α} : ((l.map f).length : Int) = l.length := by rw [List.length_map]
theorem element_place_ok (O : Ok F w σ) (S : Small w) {i : Int} (q : Q (.int (plc w.xs.length i)) σ) : callF fi (n+1) 19 [.ref F.arr, .int i] Q E σ := by
  obtain ⟨wk, h⟩ := O.arr
  unfold plc at q
  refine ⟨_, _, rfl, rfl, _, rfl, _, _, rfl, rfl, _, rfl, fun c => ?_, fun c => ?_⟩
  · have c : i < 0 := of_decide_eq_true c
    rw [if_pos c] at q
    refine ⟨_, rfl, _, rfl, _, _, _, _, rfl, h, rfl, _, _, rfl, O.I, len_lim S, _, rfl, trivial, _, rfl, _, _, rfl, rfl, _, rfl, fun c₂ => ?_, fun c₂ => ?_⟩
    · have c₂ : i + ((w.xs.map itemV).length : Int) < 0 := of_decide_eq_true c₂
      rw [len_eq] at c₂
      rw [if_pos c₂] at q
      exact ⟨_, rfl, q⟩
    · have c₂ : ¬ i + ((w.xs.map itemV).length : Int) < 0 := of_decide_eq_false c₂
      rw [len_eq] at c₂
      rw [if_neg c₂, ← len_eq (f := itemV)] at q
      exact ⟨_, rfl, q⟩
  · rw [if_neg (of_decide_eq_false c)] at q
    exact ⟨_, rfl, q⟩
theorem idx_I (O : Ok F w σ) (S : Small w) {p : Int} (h : 0 ≤ p) {o : Option Sc} (e : w.xs[p.toNat]? = some o) (q : Q (itemV o) σ) : sem2 .idx (.ref w.I) (.int p) Q σ :=
  ⟨_, _, _, p.toNat, _, rfl, rfl, O.I, len_lim S, by
    have := (List.getElem?_eq_some_iff.mp e).1
    unfold place; rw [if_pos h, if_pos (by rw [List.length_map]; lia)], by rw [List.getElem?_map, e]; rfl, q⟩
theorem has_element_ok (O : Ok F w σ) (S : Small w) {i : Int} (q : Q (.bool (atI w.xs i).isSome) σ) : callF fi (n+2) 20 [.ref F.arr, .int i] Q E σ := by
  obtain ⟨wk, h⟩ := O.arr
  refine ⟨_, _, rfl, rfl, _, rfl, _, rfl, evs_nil <| element_place_ok O S ⟨_, rfl, _, _, rfl, rfl, fun c => ⟨_, rfl, fun Ω => ?_, fun e => nomatch e⟩, fun c => ⟨_, rfl, _, _, _, _, rfl, h, rfl, _, _, rfl, O.I, len_lim S, _, rfl, ?_⟩⟩⟩
  · have c : ¬ (0 : Int) ≤ plc w.xs.length i := of_decide_eq_false c
    have : atI w.xs i = none := by unfold atI; rw [if_pos (by lia)]
    rw [this] at q; exact q
  · have c : (0 : Int) ≤ plc w.xs.length i := of_decide_eq_true c
    by_cases c₂ : plc w.xs.length i < w.xs.length
    · have k : IOp.lt.on (plc w.xs.length i) ((w.xs.map itemV).length : Int) = true := decide_eq_true (by rw [len_eq]; exact c₂)
      rw [k]
      obtain ⟨o, ho⟩ : ∃ o, w.xs[(plc w.xs.length i).toNat]? = some o := ⟨_, List.getElem?_eq_getElem (by lia)⟩
      have ea : atI w.xs i = o := by unfold atI; rw [if_neg (by lia), ho]; rfl
      rw [ea] at q
      refine ⟨_, rfl, (fun e => nomatch e), fun Ω => ⟨_, rfl, _, _, _, _, rfl, h, rfl, _, rfl, idx_I O S c ho ?_⟩⟩
      cases o with
      | none => exact isNN_f ⟨_, rfl, q⟩
      | some s => exact isNN_t vN ⟨_, rfl, q⟩
    · have k : IOp.lt.on (plc w.xs.length i) ((w.xs.map itemV).length : Int) = false := decide_eq_false (by rw [len_eq]; exact c₂)
      rw [k]
      have : atI w.xs i = none := by unfold atI; rw [if_neg (by lia), List.getElem?_eq_none (by lia)]; rfl
      rw [this] at q
      exact ⟨_, rfl, fun Ω => q, fun e => nomatch e⟩
theorem value_of_item (O : Ok F w σ) (N : Nice w) {s : Sc} (h : some s ∈ w.xs) (q : ∀ v, Vl F w σ v s.d → Q v σ) : callF fi (n+1) 8 [.ref s.a] Q E σ := by
  obtain ⟨wk, v, h, V, B⟩ := (O.live s (N.mem h)).ex
  exact value_of_sc h (q v V)
theorem at_get {l : List (Option Sc)} {i : Int} {s : Sc} (h : atI l i = some s) : 0 ≤ plc l.length i ∧ l[(plc l.length i).toNat]? = some (some s) := by
  unfold atI at h
  split at h
  · cases h
  · exact ⟨by lia, Option.join_eq_some_iff.mp h⟩
theorem element_value_ok (O : Ok F w σ) (N : Nice w) (S : Small w) {i : Int} (q : ∀ v, Vl F w σ v (od (atI (xv w) i)) → Q v σ) : callF fi (n+3) 21 [.ref F.arr, .int i] Q E σ := by
  obtain ⟨wk, h⟩ := O.arr
  rw [xv, atI_map, ← valO_od] at q
  refine ⟨_, _, rfl, rfl, _, rfl, _, rfl, evs_nil <| has_element_ok O S ?_⟩
  cases e : atI w.xs i with
  | none =>
    rw [e] at q
    exact ⟨_, rfl, if_t rfl (q _ .none)⟩
  | some s =>
    rw [e] at q
    obtain ⟨h1, h2⟩ := at_get e
    exact ⟨_, rfl, if_f rfl ⟨_, rfl, _, _, _, _, rfl, h, rfl, _, rfl, _, rfl, evs_nil <| element_place_ok O S (idx_I O S h1 h2 (evs_nil <| value_of_item O N (List.mem_of_getElem? h2) q))⟩⟩
theorem comp_go {turn : AV → PT} {l : Nat} {xs : List AV} {δ : Type} {ds : List δ} {R : AV → δ → Prop} {f : δ → D} {T : AH → AV → D → Prop} (O : Ok F w σ) (hs : All2 R xs ds) (hl : ∀ σ₁, Go F w σ w σ₁ → σ₁ l = some (.list xs))
    (step : ∀ σ₁ v d, Go F w σ w σ₁ → R v d → ∀ Q', (∀ σ₂ y, Go F w σ₁ w σ₂ → T σ₂ y (f d) → Q' y σ₂) → turn v Q' E σ₁) (mono : ∀ σ₁ σ₂ y d, Go F w σ₁ w σ₂ → T σ₁ y d → T σ₂ y d)
    (fin : ∀ σ' ys a, Go F w σ w σ' → All2 (T σ') ys (ds.map f) → σ' a = none → Q (.ref a) (σ'.put a (.list ys))) : compL turn l xs Q E xs [] σ := by
  refine comp_ind (fun r ys σ' => ∃ d₁ d₂, ds = d₁ ++ d₂ ∧ All2 R r d₂ ∧ Go F w σ w σ' ∧ All2 (T σ') ys (d₁.map f)) ?_ ?_ ?_ ⟨[], ds, rfl, hs, .refl O, .nil⟩
  · rintro v r ys σ₁ ⟨d₁, d₂, rfl, hr, G, hy⟩ Q' k
    cases hr with
    | @cons _ d _ ds' a b =>
      exact step σ₁ v d G a _ fun σ₂ y G₂ ht => k _ _ ⟨d₁ ++ [d], ds', by rw [List.append_assoc]; rfl, b, G.trans G₂, by rw [List.map_append]; exact (hy.mono fun Ω Ω z => mono _ _ _ _ G₂ z).append (.cons ht .nil)⟩
  · rintro r ys σ₁ ⟨d₁, d₂, _, hr, G, hy⟩
    exact hl _ G
  · rintro ys σ₁ ⟨d₁, d₂, e, hr, G, hy⟩ a ha
    cases hr
    rw [List.append_nil] at e
    exact fin _ _ _ G (e ▸ hy) ha
theorem All2.maps {α β γ : Type} {R : α → β → Prop} {f : γ → α} {l : List γ} {g : γ → β} (h : ∀ x ∈ l, R (f x) (g x)) : All2 R (l.map f) (l.map g) := by
  induction l with
  | nil => exact .nil
  | cons a r ih => exact .cons (h a (.head _)) (ih fun x m => h x (.tail _ m))
theorem vals_go {l : Nat} {xs : List (Option Sc)} (O : Ok F w σ) (N : Nice w) (hx : ∀ o ∈ xs, ∀ s, o = some s → some s ∈ w.xs) (hl : ∀ σ₁, Go F w σ w σ₁ → σ₁ l = some (.list (xs.map itemV))) {ρ : Loc}
    (fin : ∀ σ' ys a, Go F w σ w σ' → All2 (Vl F w σ') ys (xs.map valO) → σ' a = none → Q (.ref a) (σ'.put a (.list ys))) :
    compL (fun v Q E σ => ev (callF fi (n+1)) (.call 8 (.cons (.loc 28) .nil)) (ρ.put 28 v) Q E σ) l (xs.map itemV) Q E (xs.map itemV) [] σ := by
  refine comp_go (R := fun v (o : Option Sc) => v = itemV o ∧ ∀ s, o = some s → some s ∈ w.xs) (ds := xs) (f := valO) (T := fun σ => Vl F w σ) O ?_ hl ?_ (fun Ω Ω Ω Ω G h => h.st G.st) fin
  · have := All2.maps (R := fun v (o : Option Sc) => v = itemV o ∧ ∀ s, o = some s → some s ∈ w.xs) (f := itemV) (g := id) (l := xs) fun x m => ⟨rfl, hx x m⟩
    rwa [List.map_id] at this
  · rintro σ₁ v o G ⟨rfl, h⟩ Q' k
    cases o with
    | none => exact ⟨_, rfl, evs_nil <| value_of_v nofun (k _ _ (.refl G.ok) .none)⟩
    | some s => exact ⟨_, rfl, evs_nil <| value_of_item G.ok N (h s rfl) fun v V => k _ _ (.refl G.ok) V⟩
theorem array_values_ok (O : Ok F w σ) (N : Nice w) (S : Small w) (q : ∀ σ' ys a, Go F w σ w σ' → All2 (Vl F w σ') ys ((xv w).map od) → σ' a = none → Q (.ref a) (σ'.put a (.list ys))) : callF fi (n+2) 27 [.ref F.arr] Q E σ := by
  obtain ⟨wk, h⟩ := O.arr
  have e : (xv w).map od = w.xs.map valO := by rw [xv, List.map_map]; exact List.map_congr_left fun x Ω => (valO_od x).symm
  rw [e] at q
  exact ⟨_, _, rfl, rfl, _, rfl, _, _, _, _, rfl, h, rfl, _, _, rfl, O.I, len_lim S, vals_go O N (fun o m s e => e ▸ m) (fun σ₁ G => G.ok.I) q⟩
theorem plain_values_ok (O : Ok F w σ) (N : Nice w) (S : Small w) (q : ∀ σ' ys a, Go F w σ w σ' → All2 (Vl F w σ') ys ((xv w).map od) → σ' a = none → Q (.ref a) (σ'.put a (.list ys))) : callF fi (n+2) 36 [.ref w.I] Q E σ := by
  have e : (xv w).map od = w.xs.map valO := by rw [xv, List.map_map]; exact List.map_congr_left fun x Ω => (valO_od x).symm
  rw [e] at q
  exact ⟨_, _, rfl, rfl, _, rfl, _, _, rfl, O.I, len_lim S, vals_go O N (fun o m s e => e ▸ m) (fun σ₁ G => G.ok.I) q⟩
end
end
section
set_option tactic.hygienic false
open PySem PySem.W
structure Op (F : Fx) (w : Wd) (σ : AH) (w' : Wd) (σ' : AH) (X : List (Option D)) (m : Nat) : Prop where
  go : Go F w σ w' σ'
  nice : Nice w'
  ys : w'.ys = w.ys
  xv : xv w' = X
  last : w'.last = w.last + (m : Nat)
structure Mid (w : Wd) (ms : List (Option Sc)) : Prop where
  full : w.live.Perm (ms.filterMap id ++ w.xs.filterMap id)
  zp : w.zl.Perm w.zs
  pd : w.pd = []
  h3 : 3 ≤ w.last
  ml : ms.length ≤ 1000
  last : w.last ≤ 1100
section
variable {F : Fx} {w w' w'' : Wd} {σ σ' σ'' : AH} {Q : AV → AH → Prop} {E : EX} {n : Nat}
theorem nodup_len : ∀ {l : List Int} {b : Nat}, l.Nodup → (∀ x ∈ l, 0 < x ∧ x ≤ b) → l.length ≤ b
  | l, 0, _, h => by
    cases l with
    | nil => exact Nat.le_refl _
    | cons a r => have := h a (.head _); lia
  | l, b + 1, nd, h => by
    have := nodup_len (l := l.erase (b + 1 : Int)) (b := b) (nd.erase _) fun x m => by
      have m' := (List.Nodup.mem_erase_iff nd).mp m
      have := h x m'.2
      lia
    have e := List.length_erase (a := (b + 1 : Int)) (l := l)
    split at e <;> lia
theorem Ok.zlen (O : Ok F w σ) (zp : w.zl.Perm w.zs) (h3 : 3 ≤ w.last) : (w.zl.length : Int) + w.live.length ≤ w.last - 3 := by
  have := nodup_len (l := ((w.live ++ w.zs).map Sc.n).map (· - 3)) (b := (w.last - 3).toNat) (by
    rw [List.Nodup, List.pairwise_map]
    exact O.ndn.imp fun h e => h ((Int.sub_add_cancel _ _).symm.trans ((congrArg (· + 3) e).trans (Int.sub_add_cancel _ _)))) fun x m => by
      obtain ⟨y, hy, e⟩ := List.mem_map.mp m
      obtain ⟨s, hs, e2⟩ := List.mem_map.mp hy
      obtain ⟨a, b⟩ := O.rng s hs
      rw [Int.toNat_of_nonneg (Int.sub_nonneg_of_le h3), ← e, ← e2]
      exact ⟨Int.sub_pos_of_lt a, Int.sub_le_sub_right b 3⟩
  rw [List.length_map, List.length_map, List.length_append, ← zp.length_eq] at this
  have := Int.ofNat_le.mpr this
  rw [Int.toNat_of_nonneg (Int.sub_nonneg_of_le h3), Int.natCast_add, Int.add_comm] at this
  exact this
theorem rm_ok (O : Ok F w σ) {m : Option Sc} (M : Mid w [m]) (q : ∀ w' σ' v, Vl F w' σ' v (valO m) → Op F w σ w' σ' (xv w) 0 → Q v σ') : callF fi (n+3) 10 [.ref F.ct, itemV m] Q E σ := by
  have hz := O.zlen M.zp M.h3
  have hl := M.last
  have e : [m].filterMap id = m.toList := by cases m <;> rfl
  refine drop_member_ok O (e ▸ M.full) (by show _ < 10000; lia) fun σ' v V G => q _ σ' v (V.st G.st) ⟨G, ⟨.refl _, ?_, M.pd, M.h3⟩, rfl, rfl, (Int.add_zero _).symm⟩
  exact List.perm_append_comm.trans (M.zp.append_left _)
theorem rms_ok (O : Ok F w σ) {m : Nat} {ms : List (Option Sc)} (M : Mid w ms) (L : At_ F w σ m (.list (ms.map itemV)))
    (q : ∀ w' σ' us a, All2 (Vl F w' σ') us (ms.map valO) → Op F w σ w' σ' (xv w) 0 → σ' a = none → Q (.ref a) (σ'.put a (.list us))) : callF fi (n+4) 11 [.ref F.ct, .ref m] Q E σ := by
  have hz := O.zlen M.zp M.h3
  have hl := M.last
  have hm := M.ml
  refine drop_members_ok O L M.full (by first | exact lim_of (by assumption) (by rfl) | (show _ ≤ 10000; lia)) fun σ' us a V G ha => q (w.dropTo (w.xs.filterMap id) ((ms.filterMap id).reverse ++ w.zs) (w.zl ++ ms.filterMap id)) σ' us a (V.mono fun Ω Ω h => h.same rfl) ⟨G, ⟨.refl _, ?_, M.pd, M.h3⟩, rfl, rfl, (Int.add_zero _).symm⟩ ha
  exact List.perm_append_comm.trans ((List.reverse_perm _).symm.append M.zp)
theorem fm_some {l : List Sc} : (l.map some).filterMap id = l := by
  induction l with
  | nil => rfl
  | cons a r ih => exact congrArg (a :: ·) ih
theorem fm_app {a b : List (Option Sc)} : (a ++ b).filterMap id = a.filterMap id ++ b.filterMap id := List.filterMap_append ..
theorem it_some {l : List Sc} : (l.map some).map itemV = l.map Sc.v := by rw [List.map_map]; rfl
theorem xv_some {l : List Sc} {ds : List D} (h : l.map Sc.d = ds) : (l.map some).map (Option.map Sc.d) = ds.map some := by rw [List.map_map, ← h, List.map_map]; rfl
theorem perm4 {a m s b : List Sc} : (s ++ (a ++ m ++ b)).Perm (m ++ (a ++ s ++ b)) := by
  rw [List.append_assoc, List.append_assoc]
  exact ((List.perm_append_comm_assoc a m b).append_left s).trans ((List.perm_append_comm_assoc s m (a ++ b)).trans ((List.perm_append_comm_assoc s a b).append_left m))
theorem ins_ok (O : Ok F w σ) (N : Nice w) (S : Small w) {ss : List Sc} {σ₁ : AH} {ds : List D} {a b : List (Option Sc)} {m : Nat} {ms : List (Option Sc)} (hx : w.xs = a ++ ms ++ b) (hd : ss.map Sc.d = ds) (hn : ds.length ≤ 100)
    (G : Go F w σ (w.frTo (w.last + (ss.length : Nat)) (ss ++ w.live)) σ₁) (hm : σ₁ m = none) :
    ∃ w', Go F w σ w' ((σ₁.put m (.list (ss.map Sc.v))).put w.I (.list ((a ++ ss.map some ++ b).map itemV))) ∧ Mid w' ms ∧ w'.ys = w.ys ∧ w'.xs = a ++ ss.map some ++ b ∧ w'.last = w.last + (ds.length : Nat) ∧ w'.I = w.I := by
  have G₂ := G.ok.new hm (.list (ss.map Sc.v))
  have G₃ := G₂.ok.setItems (a ++ ss.map some ++ b)
  have e : ss.length = ds.length := by rw [← hd, List.length_map]
  refine ⟨_, G.trans (G₂.trans G₃), ⟨?_, N.zp, N.pd, ?_, ?_, ?_⟩, rfl, rfl, by rw [← e], rfl⟩
  · have := N.full
    rw [hx, fm_app, fm_app] at this
    show (ss ++ w.live).Perm _
    rw [fm_app, fm_app, fm_some]
    refine (this.append_left ss).trans ?_
    exact perm4
  · have := N.h3; show 3 ≤ w.last + _; lia
  · have := S.xs; rw [hx, List.length_append, List.length_append] at this; lia
  · have := S.last; show w.last + _ ≤ 1100; lia
theorem mid0 (M : Mid w []) : Nice w := ⟨M.full, M.zp, M.pd, M.h3⟩
theorem push_ok (O : Ok F w σ) (N : Nice w) (S : Small w) {l : Nat} {vs : List AV} {ds : List D} (L : At_ F w σ l (.list vs)) (V : All2 (Vl F w σ) vs ds) (hb : ds.length ≤ 100) (hv : vs.length ≤ lim)
    (q : ∀ w' σ', Op F w σ w' σ' (xv w ++ ds.map some) ds.length → Q (.int w'.xs.length) σ') : callF fi (n+6) 12 [.ref F.ct, .ref F.arr, .ref l] Q E σ := by
  obtain ⟨wk, h⟩ := O.arr
  refine ⟨_, _, rfl, rfl, _, rfl, _, _, _, _, rfl, h, rfl, ⟨_, _, rfl, O.I⟩, _, rfl, _, rfl, evs_nil <| fresh_scalars_ok O N.h3 L V hv fun σ₁ ss a hd G ha => ?_⟩
  obtain ⟨w', G', M, h1, h2, h3, h4⟩ := ins_ok O N S (a := w.xs) (b := []) (ms := []) (by simp) hd hb G ha
  have e : w.xs.map itemV ++ ss.map Sc.v = (w.xs ++ ss.map some ++ []).map itemV := by rw [List.append_nil, List.map_append, it_some]
  have hs := S.xs
  have e2 : ss.length = ds.length := by rw [← hd, List.length_map]
  refine ⟨_, _, _, _, rfl, rfl, fun e => ?_, put_new ha G.ok.I, put_eq, by rw [List.length_map, List.length_map]; show w.xs.length + ss.length ≤ 10000; lia, ?_⟩
  · rw [e, G.ok.I] at ha; cases ha
  · rw [e]
    obtain ⟨wk', h'⟩ := G'.ok.arr
    have hI := G'.ok.I
    rw [h4, h2] at hI
    rw [h4] at h'
    have q' := q _ _ ⟨G', mid0 M, h1, by rw [xv, h2, List.append_nil, List.map_append, xv_some hd]; rfl, h3⟩
    rw [h2] at q'
    have hl : ((w.xs ++ ss.map some ++ []).map itemV).length ≤ lim := by rw [List.length_map, List.append_nil, List.length_append, List.length_map]; first | exact lim_of (by assumption) (by rfl) | (show _ ≤ 10000; lia)
    exact ⟨_, rfl, _, _, _, _, rfl, h', rfl, _, _, rfl, hI, hl, by rw [len_eq]; exact q'⟩
theorem setCut_map {a ms b : List (Option Sc)} {vs : List AV} {i j : Nat} (hi : i = a.length) (hj : j = a.length + ms.length) : setCut ((a ++ ms ++ b).map itemV) vs i j = a.map itemV ++ vs ++ b.map itemV := by
  subst hi hj
  have e1 : (a ++ ms ++ b).take a.length = a := by rw [List.append_assoc, List.take_left]
  have e2 : (a ++ ms ++ b).drop (Nat.max a.length (a.length + ms.length)) = b := by
    rw [show Nat.max a.length (a.length + ms.length) = (a ++ ms).length from by rw [List.length_append]; exact Nat.max_eq_right (Nat.le_add_right _ _), List.drop_left]
  unfold setCut
  rw [← List.map_take, ← List.map_drop, e1, e2]
theorem app_it {a b : List (Option Sc)} {ss : List Sc} : a.map itemV ++ ss.map Sc.v ++ b.map itemV = (a ++ ss.map some ++ b).map itemV := by rw [List.map_append, List.map_append, it_some]
theorem xv_ins {a b : List (Option Sc)} {ss : List Sc} {ds : List D} (h : ss.map Sc.d = ds) : (a ++ ss.map some ++ b).map (Option.map Sc.d) = a.map (Option.map Sc.d) ++ ds.map some ++ b.map (Option.map Sc.d) := by rw [List.map_append, List.map_append, xv_some h]
theorem clamp_nat {N b : Nat} (h : b ≤ N) : (clampI N (b : Nat)).toNat = b := by
  unfold clampI; rw [if_neg (Int.not_lt.mpr (Int.natCast_nonneg b)), Int.min_eq_left (Int.ofNat_le.mpr h)]; rfl
theorem loB_nat {N b : Nat} (h : b ≤ N) : loB N (.int (b : Nat)) = some b := congrArg some (clamp_nat h)
theorem hiB_nat {N b : Nat} (h : b ≤ N) : hiB N (.int (b : Nat)) = some b := congrArg some (clamp_nat h)
theorem unshift_ok (O : Ok F w σ) (N : Nice w) (S : Small w) {l : Nat} {vs : List AV} {ds : List D} (L : At_ F w σ l (.list vs)) (V : All2 (Vl F w σ) vs ds) (hb : ds.length ≤ 100) (hv : vs.length ≤ lim)
    (q : ∀ w' σ', Op F w σ w' σ' (ds.map some ++ xv w) ds.length → Q (.int w'.xs.length) σ') : callF fi (n+6) 13 [.ref F.ct, .ref F.arr, .ref l] Q E σ := by
  refine ⟨_, _, rfl, rfl, _, rfl, _, rfl, evs_nil <| fresh_scalars_ok O N.h3 L V hv fun σ₁ ss a hd G ha => ?_⟩
  obtain ⟨w', G', M, h1, h2, h3, h4⟩ := ins_ok O N S (a := []) (b := w.xs) (ms := []) rfl hd hb G ha
  obtain ⟨wk, h⟩ := G.ok.arr
  have hs := S.xs
  have e2 : ss.length = ds.length := by rw [← hd, List.length_map]
  refine ⟨_, rfl, _, _, _, _, rfl, put_new ha h, rfl, w.I, a, w.xs.map itemV, ss.map Sc.v, 0, 0, rfl, rfl, fun e => ?_, put_new ha G.ok.I, put_eq, by rw [List.length_map, List.length_map]; show w.xs.length + ss.length ≤ 10000; lia, loB_nat (b := 0) (Nat.zero_le _), hiB_nat (b := 0) (Nat.zero_le _), ?_⟩
  · rw [e, G.ok.I] at ha; cases ha
  · rw [show setCut (w.xs.map itemV) (ss.map Sc.v) 0 0 = ([] ++ ss.map some ++ w.xs).map itemV from (setCut_map (a := []) (ms := []) (b := w.xs) rfl rfl).trans app_it]
    obtain ⟨wk', h'⟩ := G'.ok.arr
    have hI := G'.ok.I
    rw [h4, h2] at hI
    rw [h4] at h'
    have q' := q _ _ ⟨G', mid0 M, h1, by rw [xv, h2, xv_ins hd]; rfl, h3⟩
    rw [h2] at q'
    exact ⟨_, rfl, _, _, _, _, rfl, h', rfl, _, _, rfl, hI, by rw [List.length_map, List.nil_append, List.length_append, List.length_map]; first | exact lim_of (by assumption) (by rfl) | (show _ ≤ 10000; lia), by rw [len_eq]; exact q'⟩
theorem len_xs (h : w.xs.length ≤ 1000) : w.xs.length ≤ lim := Nat.le_trans h (Nat.le_of_ble_eq_true rfl)
theorem pop_ok (O : Ok F w σ) (N : Nice w) (S : Small w) (q : ∀ w' σ' v (r : List (Option D)) x, (xv w = [] ∧ r = [] ∧ x = .none ∨ ∃ o, xv w = r ++ [o] ∧ x = od o) → Vl F w' σ' v x → Op F w σ w' σ' r 0 → Q v σ') : callF fi (n+4) 14 [.ref F.ct, .ref F.arr] Q E σ := by
  obtain ⟨wk, h⟩ := O.arr
  refine ⟨_, _, rfl, rfl, _, rfl, _, _, _, _, rfl, h, rfl, _, _, rfl, O.I, _, rfl, ?_⟩
  rcases List.eq_nil_or_concat w.xs with e | ⟨r, m, e⟩
  · rw [e]
    exact if_t rfl (q w σ _ [] .none (.inl ⟨by rw [xv, e]; rfl, rfl, rfl⟩) .none ⟨.refl O, N, rfl, by rw [xv, e]; rfl, (Int.add_zero _).symm⟩)
  · rw [List.concat_eq_append] at e
    have em : w.xs.map itemV = r.map itemV ++ [itemV m] := by rw [e, List.map_append]; rfl
    have G := O.setItems r
    have hI := O.I
    rw [em] at hI
    have hs := S.xs
    have hl := S.last
    refine if_f (by rw [em]; cases r <;> rfl) ⟨_, rfl, _, rfl, _, _, _, _, rfl, h, rfl, _, _, _, rfl, hI, by have := hs; rw [e, List.length_append] at this; rw [List.length_map]; first | exact lim_of (by assumption) (by rfl) | (show _ ≤ 10000; lia), evs_nil <| rm_ok G.ok (m := m) ⟨?_, N.zp, N.pd, N.h3, Nat.le_of_ble_eq_true rfl, by show w.last ≤ 1100; lia⟩ fun w' σ' v V P => q w' σ' v _ _ (.inr ⟨m.map Sc.d, ?_, (valO_od m)⟩) V ⟨G.trans P.go, P.nice, P.ys, P.xv, P.last⟩⟩
    · have := N.full
      rw [e, fm_app] at this
      exact this.trans List.perm_append_comm
    · rw [xv, e, List.map_append]; rfl
theorem shift_ok (O : Ok F w σ) (N : Nice w) (S : Small w) (q : ∀ w' σ' v (r : List (Option D)) x, (xv w = [] ∧ r = [] ∧ x = .none ∨ ∃ o, xv w = o :: r ∧ x = od o) → Vl F w' σ' v x → Op F w σ w' σ' r 0 → Q v σ') : callF fi (n+4) 15 [.ref F.ct, .ref F.arr] Q E σ := by
  obtain ⟨wk, h⟩ := O.arr
  refine ⟨_, _, rfl, rfl, _, rfl, _, _, _, _, rfl, h, rfl, _, _, rfl, O.I, _, rfl, ?_⟩
  cases e : w.xs with
  | nil => exact if_t rfl (q w σ _ [] .none (.inl ⟨by rw [xv, e]; rfl, rfl, rfl⟩) .none ⟨.refl O, N, rfl, by rw [xv, e]; rfl, (Int.add_zero _).symm⟩)
  | cons m r =>
    have G := O.setItems r
    have hI := O.I
    rw [e] at hI
    have hs := S.xs
    have hl := S.last
    refine if_f rfl ⟨_, rfl, _, rfl, _, _, _, _, rfl, h, rfl, ⟨_, _, rfl, hI⟩, _, _, _, 0, _, rfl, rfl, hI, by have := hs; rw [e] at this; rw [List.length_map]; first | exact lim_of (by assumption) (by rfl) | (show _ ≤ 10000; lia), by unfold place; simp, rfl, evs_nil <| rm_ok G.ok (m := m) ⟨?_, N.zp, N.pd, N.h3, Nat.le_of_ble_eq_true rfl, by show w.last ≤ 1100; lia⟩ fun w' σ' v V P => q w' σ' v _ _ (.inr ⟨m.map Sc.d, ?_, (valO_od m)⟩) V ⟨G.trans P.go, P.nice, P.ys, P.xv, P.last⟩⟩
    · have := N.full
      rw [e, show m :: r = [m] ++ r from rfl, fm_app] at this
      exact this
    · rw [xv, e]; rfl
end
end
section
set_option tactic.hygienic false
open PySem PySem.W
noncomputable def spB (N : Nat) (off : Int) : Option Int := if off < 0 then (if off + N < 0 then none else some (if (N : Int) < off + N then (N : Int) else off + N)) else some (if (N : Int) < off then (N : Int) else off)
noncomputable def spC (N : Nat) (b : Int) : Option Int → Int
  | none => N - b
  | some l => if l < 0 then (if (N - b) + l < 0 then 0 else (N - b) + l) else (if N - b < l then N - b else l)
noncomputable def oI : Option Int → AV
  | none => .none
  | some i => .int i
section
variable {F : Fx} {w w' w'' : Wd} {σ σ' σ'' : AH} {Q : AV → AH → Prop} {E : EX} {n : Nat}
theorem spB_le {N : Nat} {off b : Int} (h : spB N off = some b) : 0 ≤ b ∧ b ≤ N := by
  unfold spB at h
  split at h
  · split at h
    · cases h
    · injection h with h; subst h; split <;> lia
  · injection h with h; subst h; split <;> lia
theorem splice_place_ok {N : Nat} {off : Int} (e : spB N off = none → E σ) (q : ∀ b, spB N off = some b → Q (.int b) σ) : callF fi (n+1) 16 [.int N, .int off] Q E σ := by
  unfold spB at e q
  refine ⟨_, _, rfl, rfl, _, rfl, _, _, rfl, rfl, _, rfl, fun c => ?_, fun c => ?_⟩
  · have c : off < 0 := of_decide_eq_true c
    rw [if_pos c] at e
    simp only [if_pos c] at q
    refine ⟨_, rfl, _, rfl, _, rfl, trivial, _, rfl, _, _, rfl, rfl, _, rfl, fun c₂ => ?_, fun c₂ => ?_⟩
    · have c₂ : off + N < 0 := of_decide_eq_true c₂
      exact e (if_pos c₂)
    · have c₂ : ¬ off + N < 0 := of_decide_eq_false c₂
      exact ⟨_, rfl, _, rfl, _, _, rfl, rfl, q _ (if_neg c₂)⟩
  · simp only [if_neg (of_decide_eq_false c)] at q
    exact ⟨_, rfl, _, rfl, _, _, rfl, rfl, q _ rfl⟩
theorem splice_count_ok {N : Nat} {b : Int} {l : Option Int} (q : Q (.int (spC N b l)) σ) : callF fi (n+1) 17 [.int N, .int b, oI l] Q E σ := by
  refine ⟨_, _, rfl, rfl, _, rfl, _, rfl, _, _, rfl, rfl, trivial, _, rfl, ?_⟩
  cases l with
  | none => exact isN_t ⟨_, rfl, if_t rfl ⟨_, rfl, q⟩⟩
  | some l =>
    unfold spC at q
    refine isN_f (by nofun) ⟨_, rfl, if_f rfl ⟨_, rfl, _, _, rfl, rfl, _, rfl, fun c => ?_, fun c => ?_⟩⟩
    · dsimp only at q
      rw [if_pos (of_decide_eq_true c)] at q
      exact ⟨_, rfl, _, rfl, ⟨_, _, rfl, rfl, trivial, _, _, rfl, rfl, q⟩⟩
    · dsimp only at q
      rw [if_neg (of_decide_eq_false c)] at q
      exact ⟨_, rfl, _, rfl, _, _, rfl, rfl, q⟩
theorem cut_map {l : List (Option Sc)} {b e : Nat} : cut (l.map itemV) b e = ((l.drop b).take (e - b)).map itemV := by unfold cut; rw [← List.map_drop, ← List.map_take]
theorem split3 {α : Type} {l : List α} {b c : Nat} (h : b + c ≤ l.length) : l = l.take b ++ (l.drop b).take c ++ l.drop (b + c) ∧ (l.take b).length = b ∧ ((l.drop b).take c).length = c := by
  refine ⟨?_, ?_, ?_⟩
  · rw [List.append_assoc, ← List.drop_drop, List.take_append_drop, List.take_append_drop]
  · rw [List.length_take]; exact Nat.min_eq_left (Nat.le_trans (Nat.le_add_right ..) h)
  · rw [List.length_take, List.length_drop]; exact Nat.min_eq_left (Nat.le_sub_of_add_le (Nat.add_comm .. ▸ h))
theorem splice_ok (O : Ok F w σ) (N : Nice w) (S : Small w) {l : Nat} {vs : List AV} {ds : List D} (L : At_ F w σ l (.list vs)) (V : All2 (Vl F w σ) vs ds) (hb : ds.length ≤ 100) (hv : vs.length ≤ lim) {off : Int} {len : Option Int}
    (e : spB w.xs.length off = none → E σ)
    (q : ∀ w' σ' us a (b c : Nat), spB w.xs.length off = some (b : Int) → spC w.xs.length b len = c → b + c ≤ w.xs.length → All2 (Vl F w' σ') us (((xv w).drop b |>.take c).map od) → Op F w σ w' σ' ((xv w).take b ++ ds.map some ++ (xv w).drop (b + c)) ds.length → σ' a = none → Q (.ref a) (σ'.put a (.list us))) :
    callF fi (n+6) 18 [.ref F.ct, .ref F.arr, .int off, oI len, .ref l] Q E σ := by
  obtain ⟨wk, h⟩ := O.arr
  have hl := len_lim S
  refine ⟨_, _, rfl, rfl, _, rfl, _, _, _, _, rfl, h, rfl, _, _, rfl, O.I, hl, _, rfl, _, rfl, evs_nil ?_⟩
  rw [len_eq]
  refine splice_place_ok e fun b hbb => ?_
  have ⟨k1, k2⟩ := spB_le hbb
  obtain ⟨b, rfl⟩ := Int.eq_ofNat_of_zero_le k1
  have ⟨k3, k4⟩ : 0 ≤ spC w.xs.length b len ∧ spC w.xs.length b len ≤ w.xs.length - b := by
    cases len with
    | none => show 0 ≤ (w.xs.length : Int) - b ∧ (w.xs.length : Int) - b ≤ _; lia
    | some l => unfold spC; dsimp only; split <;> split <;> lia
  obtain ⟨c, hc⟩ := Int.eq_ofNat_of_zero_le k3
  have hbc : b + c ≤ w.xs.length := by lia
  refine ⟨_, rfl, _, rfl, _, rfl, evs_nil <| splice_count_ok ?_⟩
  rw [hc]
  obtain ⟨s1, s2, s3⟩ := split3 hbc
  refine ⟨_, rfl, _, _, _, _, rfl, h, rfl, _, rfl, _, rfl, _, rfl, _, _, rfl, rfl, trivial, _, _, b, b + c, rfl, O.I, hl, loB_nat (by rw [List.length_map]; lia), hiB_nat (by rw [List.length_map]; lia), fun t ht => ?_⟩
  rw [cut_map, Nat.add_sub_cancel_left]
  have G₁ := O.new ht (.list (((w.xs.drop b).take c).map itemV))
  have B := O.newAt ht (show imm (.list (((w.xs.drop b).take c).map itemV)) = true from rfl)
  refine ⟨_, rfl, _, rfl, evs_nil <| fresh_scalars_ok G₁.ok N.h3 (G₁.st.at_ _ _ L) (V.mono fun Ω Ω v => v.st G₁.st) hv fun σ₁ ss a hd G ha => ?_⟩
  obtain ⟨w', G', M, h1, h2, h3, h4⟩ := ins_ok G₁.ok N S s1 hd hb G ha
  obtain ⟨wk₂, h⟩ := G.ok.arr
  have hs := S.xs
  have e2 : ss.length = ds.length := by rw [← hd, List.length_map]
  refine ⟨_, rfl, _, _, _, _, rfl, put_new ha h, rfl, _, rfl, _, rfl, _, rfl, _, _, rfl, rfl, trivial, w.I, a, w.xs.map itemV, ss.map Sc.v, b, b + c, rfl, rfl, fun e => ?_, put_new ha G.ok.I, put_eq, by rw [List.length_map, List.length_map]; show w.xs.length + ss.length ≤ 10000; lia, loB_nat (by rw [List.length_map]; lia), hiB_nat (by rw [List.length_map]; lia), ?_⟩
  · rw [e, G.ok.I] at ha; cases ha
  · have es : setCut (w.xs.map itemV) (ss.map Sc.v) b (b + c) = (w.xs.take b ++ ss.map some ++ w.xs.drop (b + c)).map itemV := by
      conv => lhs; rw [s1]
      exact (setCut_map s2.symm (by rw [s2, s3])).trans app_it
    rw [es]
    refine ⟨_, rfl, _, rfl, evs_nil <| rms_ok G'.ok M ((G'.st).at_ _ _ B) fun w₂ σ₂ us a V₂ P ha₂ => q w₂ σ₂ us a b c hbb hc hbc ?_ ⟨G₁.trans (G'.trans P.go), P.nice, P.ys.trans h1, ?_, ?_⟩ ha₂⟩
    · rw [xv, ← List.map_drop, ← List.map_take, List.map_map]
      exact (List.map_congr_left fun x Ω => (valO_od x).symm) ▸ V₂
    · rw [P.xv, xv, h2, xv_ins hd, xv, List.map_take, List.map_drop]
    · rw [P.last, h3]; exact Int.add_zero _
theorem Go.instI (O : Ok F w σ) {m : Nat} {o : AO} (hm : σ m = none) {w₂ : Wd} {σ₂ : AH} (G : Go F (w.add m) (σ.put m o) w₂ σ₂) {xs : List (Option Sc)} (hw : σ₂ m = some (.list (xs.map itemV))) {wk : Nat} (h : σ₂ F.arr = some (.inst 78 (arF 3 1 wk w₂.I))) :
    Go F w σ (w₂.reTo m w₂.Z xs w₂.zl w.own) (σ₂.put F.arr (.inst 78 (arF 3 1 wk m))) ∧ At_ F (w₂.reTo m w₂.Z xs w₂.zl w.own) (σ₂.put F.arr (.inst 78 (arF 3 1 wk m))) w₂.I (.list (w₂.xs.map itemV)) := by
  have e : w₂ = ({ w₂ with own := w.own } : Wd).add m := by
    have := G.st.own
    cases w₂
    dsimp only at this
    rw [this]
  have O₂ : Ok F (({ w₂ with own := w.own } : Wd).add m) σ₂ := e ▸ G.ok
  obtain ⟨O₃, B⟩ := O₂.instI hw h
  refine ⟨⟨O₃, Step.pop hm (G.st.trans (G.ok.mutStep h rfl rfl fun b z => z)) O rfl fun b z => (muts_swapI (F := F) (w := { w₂ with own := w.own }) (xs := xs) b z).imp id fun z => ?_⟩, B⟩
  rw [e]; exact z
theorem clear_ok (O : Ok F w σ) {l : List Sc} (hl : w.live.Perm (w.xs.filterMap id ++ l)) (zp : w.zl.Perm w.zs) (h3 : 3 ≤ w.last) (hx : w.xs.length ≤ 1000) (ha : w.last ≤ 2000)
    (q : ∀ w' σ', Go F w σ w' σ' → w'.xs = [] → w'.live = l → w'.zl.Perm w'.zs → w'.pd = w.pd → w'.ys = w.ys → w'.last = w.last → Q .none σ') : callF fi (n+5) 25 [.ref F.ct, .ref F.arr] Q E σ := by
  obtain ⟨wk, h⟩ := O.arr
  obtain ⟨P, hct, _⟩ := O.ct
  have hz := O.zlen zp h3
  have hz2 : w.zl.length + w.xs.length ≤ 10000 := by lia
  refine ⟨_, _, rfl, rfl, _, rfl, _, _, _, _, rfl, h, rfl, Nat.zero_le _, fun m hm => ?_⟩
  have h' := put_new (o := .list []) hm h
  obtain ⟨G, B⟩ := Go.instI O hm (.refl (O.own_new hm (o := .list []) rfl)) (xs := []) put_eq h'
  exact ⟨_, rfl, _, _, _, rfl, h', Nat.le_of_ble_eq_true rfl, _, rfl, _, rfl, evs_nil <| drop_members_ok G.ok B hl hz2 fun σ' us a V G₂ ha => q _ _ (G.trans (G₂.trans (G₂.ok.new ha _))) rfl rfl (List.perm_append_comm.trans ((List.reverse_perm _).symm.append zp)) rfl rfl rfl⟩
theorem fill_ok (O : Ok F w σ) (N : Nice w) (S : Small w) {l : Nat} {vs : List AV} {ds : List D} (L : At_ F w σ l (.list vs)) (V : All2 (Vl F w σ) vs ds) (hb : ds.length ≤ 100) (hv : vs.length ≤ lim)
    (q : ∀ w' σ', Op F w σ w' σ' (ds.map some) ds.length → Q .none σ') : callF fi (n+6) 26 [.ref F.ct, .ref F.arr, .ref l] Q E σ := by
  have hs := S.xs
  have hl := S.last
  have h3 := N.h3
  refine ⟨_, _, rfl, rfl, _, rfl, _, rfl, evs_nil <| fresh_scalars_ok O N.h3 L V hv fun σ₁ ss a hd G ha => ?_⟩
  have e2 : ss.length = ds.length := by rw [← hd, List.length_map]
  refine ⟨_, rfl, _, rfl, evs_nil <| clear_ok (l := ss) (G.ok.own_new ha (o := .list (ss.map Sc.v)) rfl) ((N.full.append_left ss).trans List.perm_append_comm) N.zp (by show 3 ≤ w.last + _; lia) hs (by show w.last + (ss.length : Int) ≤ 2000; lia) fun w₂ σ₂ G₂ h1 h2 h3 h4 h5 h6 => ?_⟩
  obtain ⟨wk, h⟩ := G₂.ok.arr
  have hw : σ₂ a = some (.list ((ss.map some).map itemV)) := (G₂.st.mine a (.head _)).trans (put_eq.trans (by rw [it_some]))
  obtain ⟨G₃, _⟩ := Go.instI G.ok ha G₂ hw h
  refine ⟨_, rfl, _, rfl, _, _, _, rfl, h, Nat.le_of_ble_eq_true rfl, q _ _ ⟨G.trans G₃, ⟨?_, h3, h4.trans N.pd, ?_⟩, h5, ?_, ?_⟩⟩
  · show w₂.live.Perm ((ss.map some).filterMap id); rw [h2, fm_some]
  · show 3 ≤ w₂.last; rw [h6]; show 3 ≤ w.last + _; lia
  · exact xv_some hd
  · show w₂.last = _; rw [h6, ← e2]
end
end
section
set_option tactic.hygienic false
open PySem PySem.W
structure Tiny (w : Wd) : Prop where
  xs : w.xs.length ≤ 100
  last : w.last ≤ 200
noncomputable def som (l : List (Option D)) : Nat := (l.filterMap id).length
noncomputable def ext (l : List (Option D)) (p : Nat) : List (Option D) := (l ++ List.replicate 12 none).take p
noncomputable def mkX (l : List (Option D)) (p : Nat) : List (Option D) := match l[p]? with
  | some none => l.set p (some .none)
  | _ => l
noncomputable def trim {α : Type} (l : List (Option α)) : List (Option α) := (l.reverse.dropWhile Option.isNone).reverse
section
variable {F : Fx} {w w' w'' : Wd} {σ σ' σ'' : AH} {Q : AV → AH → Prop} {E : EX} {n : Nat}
theorem Tiny.small (T : Tiny w) : Small w := ⟨Nat.le_trans T.xs (Nat.le_of_ble_eq_true rfl), by have := T.last; lia⟩
theorem Op.trans {X Y : List (Option D)} {m k : Nat} (P : Op F w σ w' σ' X m) (R : Op F w' σ' w'' σ'' Y k) : Op F w σ w'' σ'' Y (m + k) :=
  ⟨P.go.trans R.go, R.nice, R.ys.trans P.ys, R.xv, by rw [R.last, P.last]; lia⟩
theorem Op.refl (O : Ok F w σ) (N : Nice w) : Op F w σ w σ (Mine.xv w) 0 := ⟨.refl O, N, rfl, rfl, (Int.add_zero _).symm⟩
theorem xv_len : (xv w).length = w.xs.length := List.length_map ..
theorem ext_lt {l : List (Option D)} {z : Nat} (h : z ≤ l.length) : ext l z = l.take z := by unfold ext; rw [List.take_append_of_le_length h]
theorem ext_ge {l : List (Option D)} {z : Nat} (h : l.length ≤ z) (h2 : z ≤ 12) : ext l z = l ++ List.replicate (z - l.length) none := by
  unfold ext
  rw [List.take_append, List.take_of_length_le h, List.take_replicate, Nat.min_eq_left (by lia)]
theorem resize_ok (O : Ok F w σ) (N : Nice w) (T : Tiny w) {i : Int} (e : 12 < i → E σ) (q : ∀ w' σ', i ≤ 12 → (w.xs.length ≤ i.toNat → ∃ k, w'.xs = w.xs ++ List.replicate k none) → Op F w σ w' σ' (ext (xv w) i.toNat) 0 → Q .none σ') : callF fi (n+5) 24 [.ref F.ct, .ref F.arr, .int i, .int 12] Q E σ := by
  obtain ⟨wk, h⟩ := O.arr
  have S := T.small
  have hl := len_lim S
  have hs := T.xs
  refine ⟨_, _, rfl, rfl, _, rfl, _, _, rfl, rfl, _, rfl, _, rfl, _, _, rfl, rfl, _, rfl, fun c => ?_, fun c => ?_⟩
  · have c : (12 : Int) < if i < 0 then 0 else i := of_decide_eq_true c
    split at c
    · lia
    · exact e c
  · have c : ¬ (12 : Int) < if i < 0 then 0 else i := of_decide_eq_false c
    have hz : (if i < 0 then (0 : Int) else i) = (i.toNat : Nat) := by split <;> lia
    have hi : i ≤ 12 := by lia
    rw [hz] at c ⊢
    refine ⟨_, rfl, _, rfl, _, _, _, _, rfl, h, rfl, _, _, rfl, O.I, hl, _, _, rfl, rfl, _, rfl, fun c₂ => ?_, fun c₂ => ?_⟩
    · have c₂ : (i.toNat : Int) < ((w.xs.map itemV).length : Int) := of_decide_eq_true c₂
      rw [len_eq] at c₂
      have k2 : i.toNat + (w.xs.length - i.toNat) ≤ w.xs.length := by lia
      have em : (w.xs.drop i.toNat).length = w.xs.length - i.toNat := List.length_drop ..
      refine ⟨_, rfl, _, _, _, _, rfl, h, rfl, _, rfl, _, _, i.toNat, w.xs.length, rfl, O.I, hl, loB_nat (by rw [List.length_map]; lia), congrArg some (List.length_map ..), fun t ht => ?_⟩
      rw [cut_map, List.take_of_length_le (l := w.xs.drop i.toNat) (by lia)]
      have G₁ := O.new ht (.list ((w.xs.drop i.toNat).map itemV))
      have B := O.newAt ht (show imm (.list ((w.xs.drop i.toNat).map itemV)) = true from rfl)
      refine ⟨Nat.zero_le _, fun a ha => ?_⟩
      have G₂ := G₁.ok.new ha (.list [])
      have G₃ := G₂.ok.setItems (w.xs.take i.toNat ++ ([] : List Sc).map some ++ [])
      obtain ⟨wk₂, h⟩ := G₂.ok.arr
      refine ⟨_, rfl, _, _, _, _, rfl, h, rfl, _, rfl, w.I, a, w.xs.map itemV, [], i.toNat, w.xs.length, rfl, rfl, fun e => ?_, G₂.ok.I, put_eq, by rw [List.length_map]; show w.xs.length + 0 ≤ 10000; lia, loB_nat (by rw [List.length_map]; lia), congrArg some (List.length_map ..), ?_⟩
      · rw [e, G₁.ok.I] at ha; cases ha
      · have et : w.xs = w.xs.take i.toNat ++ w.xs.drop i.toNat ++ [] := by rw [List.append_nil, List.take_append_drop]
        have es : setCut (w.xs.map itemV) [] i.toNat w.xs.length = (w.xs.take i.toNat ++ ([] : List Sc).map some ++ []).map itemV := by
          conv => lhs; rw [et]
          have el : (w.xs.take i.toNat).length = i.toNat := by rw [List.length_take]; lia
          exact (setCut_map el.symm (by rw [el, em, ← et]; lia)).trans (app_it (ss := []))
        rw [es]
        have G := G₁.trans (G₂.trans G₃)
        refine ⟨_, rfl, _, rfl, evs_nil <| rms_ok G₃.ok (ms := w.xs.drop i.toNat) ⟨?_, N.zp, N.pd, N.h3, by rw [em]; lia, by have := T.last; show w.last ≤ 1100; lia⟩ ((G₂.trans G₃).st.at_ _ _ B) fun w₂ σ₂ us a V P ha => q w₂ _ hi (fun z => by lia) ?_⟩
        · have := N.full
          rw [et, fm_app, fm_app] at this
          show w.live.Perm (_ ++ (w.xs.take i.toNat ++ [] ++ []).filterMap id)
          rw [List.append_nil, List.append_nil]
          exact this.trans ((List.append_nil _).symm ▸ List.perm_append_comm)
        · have P' := P.go.trans (P.go.ok.new ha (.list us))
          refine ⟨G.trans P', P.nice, P.ys, ?_, P.last⟩
          rw [P.xv, ext_lt (by rw [xv_len]; lia), xv]
          show ((w.xs.take i.toNat ++ [] ++ []).map _) = _
          rw [List.append_nil, List.append_nil, xv, List.map_take]
    · have c₂ : ¬ (i.toNat : Int) < ((w.xs.map itemV).length : Int) := of_decide_eq_false c₂
      rw [len_eq] at c₂
      refine ⟨_, rfl, _, _, _, _, rfl, h, rfl, ⟨_, _, rfl, O.I⟩, Nat.le_of_ble_eq_true rfl, fun a ha => ?_⟩
      have G₁ := O.new ha (.list [.none])
      obtain ⟨wk₂, h⟩ := G₁.ok.arr
      refine ⟨_, rfl, _, rfl, _, _, _, _, rfl, h, rfl, _, _, rfl, G₁.ok.I, hl, _, _, rfl, rfl, trivial, ?_⟩
      have ek : AOp.sub.on (i.toNat : Int) ((w.xs.map itemV).length : Int) = ((i.toNat - w.xs.length : Nat) : Int) := by rw [len_eq]; show (i.toNat : Int) - _ = _; lia
      rw [ek]
      refine ⟨a, _, [.none], rfl, rfl, put_eq, ⟨by lia, by show ((i.toNat - w.xs.length : Nat) : Int) ≤ ((10000 : Nat) : Int); lia⟩, by show 1 * _ ≤ 10000; lia, fun b hb => ?_⟩
      have er : (List.replicate ((i.toNat - w.xs.length : Nat) : Int).toNat [AV.none]).flatten = (List.replicate (i.toNat - w.xs.length) (none : Option Sc)).map itemV := by
        rw [Int.toNat_natCast, List.flatten_replicate_singleton, List.map_replicate]; rfl
      rw [er]
      have G₂ := G₁.ok.new hb (.list ((List.replicate (i.toNat - w.xs.length) (none : Option Sc)).map itemV))
      have G₃ := G₂.ok.setItems (w.xs ++ List.replicate (i.toNat - w.xs.length) none)
      refine ⟨w.I, b, _, _, rfl, rfl, fun e => ?_, G₂.ok.I, put_eq, by rw [List.length_map, List.length_map, List.length_replicate]; first | exact lim_of (by assumption) (by rfl) | (show _ ≤ 10000; lia), ?_⟩
      · rw [e, G₁.ok.I] at hb; cases hb
      · rw [← List.map_append]
        have hn : (List.replicate (i.toNat - w.xs.length) (none : Option Sc)).filterMap id = [] := by rw [List.filterMap_replicate_of_none rfl]
        refine q _ _ hi (fun Ω => ⟨_, rfl⟩) ⟨G₁.trans (G₂.trans G₃), ⟨?_, N.zp, N.pd, N.h3⟩, rfl, ?_, (Int.add_zero _).symm⟩
        · show w.live.Perm ((w.xs ++ _).filterMap id)
          rw [fm_app, hn, List.append_nil]; exact N.full
        · rw [ext_ge (by rw [xv_len]; lia) (by lia), xv_len]
          show (w.xs ++ _).map _ = _
          rw [List.map_append, List.map_replicate]; rfl
end
end
section
set_option tactic.hygienic false
open PySem PySem.W
noncomputable def opn (l : List (Option D)) (i : Int) : Option (Nat × List (Option D)) :=
  if plc l.length i < 0 then none else if (plc l.length i).toNat < l.length then some ((plc l.length i).toNat, mkX l (plc l.length i).toNat)
  else if plc l.length i < 12 then some ((plc l.length i).toNat, mkX (ext l ((plc l.length i).toNat + 1)) (plc l.length i).toNat) else none
section
variable {F : Fx} {w w' w'' : Wd} {σ σ' σ'' : AH} {Q : AV → AH → Prop} {E : EX} {n : Nat}
theorem evs_n1 {Φ : Nat → List AV → PT} {ρ : Loc} {Q : List AV → AH → Prop} {E : EX} (h : Q [.none] σ) : evs Φ (.cons .none .nil) ρ Q E σ := h
theorem fm_set {α : Type} {s : α} : ∀ {l : List (Option α)} {p : Nat}, l[p]? = some none → ((l.set p (some s)).filterMap id).Perm (s :: l.filterMap id)
  | [], p, h => by cases h
  | o :: r, 0, h => by cases h; exact .refl _
  | o :: r, p + 1, h => by
    have := fm_set (s := s) (l := r) (p := p) h
    cases o with
    | none => exact this
    | some x => exact (this.cons x).trans (.swap ..)
theorem som_set {l : List (Option D)} {p : Nat} {d : D} (h : l[p]? = some none) : som (l.set p (some d)) = som l + 1 := (fm_set h).length_eq
theorem mk_len {l : List (Option D)} {p : Nat} : (mkX l p).length = l.length := by unfold mkX; split <;> first | exact List.length_set .. | rfl
theorem mk_ok (O : Ok F w σ) (N : Nice w) (T : Tiny w) {p : Nat} (hp : p < w.xs.length) {ρ : Loc} {k : Ks} (r25 : ρ 25 = some (.ref F.ct)) (r31 : ρ 31 = some (.ref F.arr)) (r39 : ρ 39 = some (.int p))
    (q : ∀ w' σ' m s, som (mkX (xv w) p) = som (xv w) + m → m ≤ 1 → Op F w σ w' σ' (mkX (xv w) p) m → w'.xs[p]? = some (some s) → (∀ (p : Nat) (s : Sc), w.xs[p]? = some (some s) → w'.xs[p]? = some (some s)) → w'.xs.length = w.xs.length → k.next ρ σ') :
    ex (callF fi (n+4)) (.ite (.e (.u .isN (.b .idx (.u (.attr 8) (.loc 31)) (.loc 39)))) (.cons (.setI (.u (.attr 8) (.loc 31)) (.loc 39) (.mcall (.loc 25) 559 45 27 (.cons .none .nil))) .nil) .nil) ρ k σ := by
  obtain ⟨wk, h⟩ := O.arr
  obtain ⟨P, hct, _⟩ := O.ct
  have S := T.small
  obtain ⟨o, ho⟩ : ∃ o, w.xs[p]? = some o := ⟨_, List.getElem?_eq_getElem hp⟩
  have hx : (xv w)[p]? = some (o.map Sc.d) := by rw [xv, List.getElem?_map, ho]; rfl
  refine ⟨_, r31, _, _, _, _, rfl, h, rfl, _, r39, idx_I O S (Int.natCast_nonneg p) (by rw [Int.toNat_natCast]; exact ho) ?_⟩
  cases o with
  | some s =>
    have em : mkX (xv w) p = xv w := by unfold mkX; rw [hx]; rfl
    rw [em] at q
    exact isN_f vN ⟨_, rfl, if_f rfl (q w σ 0 s rfl (Nat.zero_le _) (.refl O N) ho (fun Ω Ω h => h) rfl)⟩
  | none =>
    have em : mkX (xv w) p = (xv w).set p (some .none) := by unfold mkX; rw [hx]; rfl
    rw [em] at q
    refine isN_t ⟨_, rfl, if_t rfl ⟨_, r25, _, _, rfl, hct.at_, rfl, evs_n1 <| fresh_ok O N.h3 .none fun s σ₁ hs G => ?_⟩⟩
    obtain ⟨wk₁, h₁⟩ := G.ok.arr
    have G₂ := G.ok.setItems (w.xs.set p (some s))
    refine ⟨_, r31, _, _, _, _, rfl, h₁, rfl, _, r39, w.I, p, w.xs.map itemV, p, rfl, rfl, G.ok.I, len_lim S, by unfold place; rw [if_pos (Int.natCast_nonneg p), if_pos (by rw [len_eq]; lia)]; rfl, ?_⟩
    rw [show (w.xs.map itemV).set p (.ref s.a) = (w.xs.set p (some s)).map itemV from (List.map_set (f := itemV) (a := some s)).symm]
    refine q _ _ 1 s (som_set hx) (Nat.le_refl _) ⟨G.trans G₂, ⟨(N.full.cons s).trans (fm_set ho).symm, N.zp, N.pd, by have := N.h3; show 3 ≤ w.last + 1; lia⟩, rfl, ?_, rfl⟩ ?_ (fun p' s' h' => ?_) (List.length_set ..)
    · show (w.xs.set p (some s)).map _ = _
      rw [List.map_set, ← hs]; rfl
    · exact List.getElem?_set_self hp
    · show (w.xs.set p (some s))[p']? = _
      have ne : p ≠ p' := fun e => by rw [e, h'] at ho; cases ho
      rw [List.getElem?_set_ne ne]; exact h'
theorem som_ext {l : List (Option D)} {z : Nat} (h : l.length ≤ z) (h2 : z ≤ 12) : som (ext l z) = som l := by
  unfold som
  rw [ext_ge h h2, List.filterMap_append, List.filterMap_replicate_of_none rfl, List.append_nil]
theorem Op.len {X : List (Option D)} {m : Nat} (P : Op F w σ w' σ' X m) : w'.xs.length = X.length := by rw [← P.xv]; exact xv_len.symm
theorem element_scalar_ok (O : Ok F w σ) (N : Nice w) (T : Tiny w) {i : Int} (e : opn (xv w) i = none → E σ)
    (q : ∀ w' σ' p X m s, opn (xv w) i = some (p, X) → som X = som (xv w) + m → m ≤ 1 → (X.length = (xv w).length ∨ X.length ≤ 12) → Op F w σ w' σ' X m → w'.xs[p]? = some (some s) → (∀ (p : Nat) (s : Sc), w.xs[p]? = some (some s) → w'.xs[p]? = some (some s)) → Q (.ref s.a) σ') :
    callF fi (n+6) 22 [.ref F.ct, .ref F.arr, .int i, .int 12] Q E σ := by
  obtain ⟨wk, h⟩ := O.arr
  have S := T.small
  have hT := T.xs
  have hL := T.last
  unfold opn at e q
  rw [xv_len] at e q
  refine ⟨_, _, rfl, rfl, _, rfl, _, rfl, evs_nil <| element_place_ok O S ⟨_, rfl, _, _, rfl, rfl, _, rfl, fun c => ?_, fun c => ?_⟩⟩
  · exact e (if_pos (of_decide_eq_true c))
  · have c : ¬ plc w.xs.length i < 0 := of_decide_eq_false c
    obtain ⟨p, hp⟩ := Int.eq_ofNat_of_zero_le (show 0 ≤ plc w.xs.length i by lia)
    rw [hp] at e q ⊢
    rw [if_neg (by lia), Int.toNat_natCast] at e q
    -- the end: the item given back
    have fin : ∀ {w₁ : Wd} {σ₁ : AH} {s : Sc} {ρ : Loc}, Ok F w₁ σ₁ → Small w₁ → w₁.xs[p]? = some (some s) → ρ 31 = some (.ref F.arr) → ρ 39 = some (.int p) → Q (.ref s.a) σ₁ → ev (callF fi (n+5)) (.b .idx (.u (.attr 8) (.loc 31)) (.loc 39)) ρ Q (fun σ => E σ) σ₁ := fun {w₁ σ₁ s ρ} O₁ S₁ hs r1 r2 q => by
      obtain ⟨wk, h⟩ := O₁.arr
      exact ⟨_, r1, _, _, _, _, rfl, h, rfl, _, r2, idx_I (o := some s) O₁ S₁ (Int.natCast_nonneg p) (by rw [Int.toNat_natCast]; exact hs) q⟩
    refine ⟨_, rfl, _, rfl, _, _, _, _, rfl, h, rfl, _, _, rfl, O.I, len_lim S, _, _, rfl, rfl, _, rfl, fun c₂ => ?_, fun c₂ => ?_⟩
    · have c₂ : ((w.xs.map itemV).length : Int) ≤ (p : Int) := of_decide_eq_true c₂
      rw [len_eq] at c₂
      rw [if_neg (by lia)] at e q
      refine ⟨_, rfl, _, rfl, _, rfl, _, _, rfl, rfl, trivial, _, rfl, evs_nil <| resize_ok O N T (fun k => e (if_neg (by show ¬ (p : Int) < 12; have : (12 : Int) < (p : Int) + 1 := k; lia))) fun w₁ σ₁ k gr P => ?_⟩
      have k : (p : Int) + 1 ≤ 12 := k
      have ep : (AOp.add.on (p : Int) 1).toNat = p + 1 := by show ((p : Int) + 1).toNat = _; lia
      rw [ep] at P
      rw [if_pos (by lia)] at q
      have le : (ext (xv w) (p + 1)).length = p + 1 := by rw [ext_ge (by rw [xv_len]; lia) (by lia), List.length_append, List.length_replicate, xv_len]; lia
      have hl := P.len
      have hla := P.last
      refine mk_ok P.go.ok P.nice ⟨by lia, by lia⟩ (p := p) (by lia) rfl rfl rfl fun w₂ σ₂ m s hm h1 P₂ hs mono hlen => ?_
      rw [P.xv] at hm P₂
      have hla2 := P₂.last
      rw [som_ext (by rw [xv_len]; lia) (by lia)] at hm
      exact fin P₂.go.ok ⟨by lia, by lia⟩ hs rfl rfl (q w₂ σ₂ p _ m s rfl hm h1 (.inr (by rw [mk_len]; lia)) (by have := P.trans P₂; rwa [Nat.zero_add] at this) hs fun p' s' h' => mono p' s' (by
        obtain ⟨z, hz⟩ := gr (by lia)
        rw [hz, List.getElem?_append_left (List.getElem?_eq_some_iff.mp h').1]; exact h'))
    · have c₂ : ¬ ((w.xs.map itemV).length : Int) ≤ (p : Int) := of_decide_eq_false c₂
      rw [len_eq] at c₂
      rw [if_pos (by lia)] at q
      refine mk_ok O N T (p := p) (by lia) rfl rfl rfl fun w₂ σ₂ m s hm h1 P₂ hs mono hlen => ?_
      have hla2 := P₂.last
      exact fin P₂.go.ok ⟨by lia, by lia⟩ hs rfl rfl (q w₂ σ₂ p _ m s rfl hm h1 (.inl (mk_len.trans xv_len)) P₂ hs mono)
end
end
section
set_option tactic.hygienic false
open PySem PySem.W
noncomputable def del (l : List (Option D)) (i : Int) : D × List (Option D) := match atI l i with
  | none => (.none, l)
  | some d => (d, if (plc l.length i).toNat + 1 = l.length then trim (l.set (plc l.length i).toNat none) else l.set (plc l.length i).toNat none)
noncomputable def dels : List (Option D) → List Int → List D × List (Option D)
  | l, [] => ([], l)
  | l, i :: r => ((del l i).1 :: (dels (del l i).2 r).1, (dels (del l i).2 r).2)
noncomputable def opns : List (Option D) → List Int → Option (List Nat) × List (Option D)
  | l, [] => (some [], l)
  | l, i :: r => match opn l i with
    | none => (none, l)
    | some (p, X) => ((opns X r).1.map (p :: ·), (opns X r).2)
section
variable {F : Fx} {w w' w'' : Wd} {σ σ' σ'' : AH} {Q : AV → AH → Prop} {E : EX} {n : Nat}
theorem fi_t {P R : Prop} {b : Bool} (h : b = true) (q : P) : (b = false → R) ∧ (b = true → P) := ⟨fun e => (nomatch h.symm.trans e), fun Ω => q⟩
theorem fi_f {P R : Prop} {b : Bool} (h : b = false) (q : R) : (b = false → R) ∧ (b = true → P) := ⟨fun Ω => q, fun e => nomatch h.symm.trans e⟩
theorem trim_none {α : Type} {r : List (Option α)} : trim (r ++ [none]) = trim r := by unfold trim; rw [List.reverse_append]; rfl
theorem trim_some {α : Type} {r : List (Option α)} {s : α} : trim (r ++ [some s]) = r ++ [some s] := by unfold trim; rw [List.reverse_append]; show (some s :: r.reverse).reverse = _; rw [List.reverse_cons, List.reverse_reverse]
theorem trim_map {α β : Type} (f : α → β) (l : List (Option α)) : trim (l.map (Option.map f)) = (trim l).map (Option.map f) := by
  unfold trim
  rw [← List.map_reverse, List.dropWhile_map, ← List.map_reverse]
  congr 3
  funext o; cases o <;> rfl
theorem trim_fm {α : Type} (l : List (Option α)) : (trim l).filterMap id = l.filterMap id := by
  unfold trim
  have : ∀ r : List (Option α), (r.dropWhile Option.isNone).filterMap id = r.filterMap id := by
    intro r
    induction r with
    | nil => rfl
    | cons o r ih => cases o with
      | none => exact ih
      | some x => rfl
  rw [List.filterMap_reverse, this, ← List.filterMap_reverse, List.reverse_reverse]
theorem while_trim (O : Ok F w σ) {ρ : Loc} {k : Ks} (r31 : ρ 31 = some (.ref F.arr)) : ∀ (N : Nat) (xs : List (Option Sc)) (σ₁ : AH), xs.length < N → N ≤ 1000 → Go F w σ (w.xsTo xs) σ₁ → (∀ σ', Go F w σ (w.xsTo (trim xs)) σ' → k.next ρ σ') →
    whileN (fun ρ Q σ => tst (callF fi n) (.ands (.cons (.e (.u .neNil (.u (.attr 8) (.loc 31)))) (.cons (.e (.u .isN (.b .idx (.u (.attr 8) (.loc 31)) (.u .neg (.int 1))))) .nil))) ρ Q (fun Ω => False) σ)
      (fun ρ k σ => exs (callF fi n) (.cons (.expr (.pop (.u (.attr 8) (.loc 31)))) .nil) ρ k σ) k N ρ σ₁
  | 0, xs, σ₁, h, _, _, _ => by lia
  | N + 1, xs, σ₁, h, hN, G, q => by
    obtain ⟨wk, ha⟩ := G.ok.arr
    rcases List.eq_nil_or_concat xs with e | ⟨r, m, e⟩
    · subst e
      exact ⟨_, r31, _, _, _, _, rfl, ha, rfl, _, _, rfl, G.ok.I, _, rfl, fi_f rfl (fi_f rfl (q _ G))⟩
    · rw [List.concat_eq_append] at e
      subst e
      have hI := G.ok.I
      have em : (w.xsTo (r ++ [m])).xs.map itemV = r.map itemV ++ [itemV m] := List.map_append ..
      rw [em] at hI
      have hl : r.length + 1 < N + 1 := by rw [List.length_append] at h; exact h
      refine ⟨_, r31, _, _, _, _, rfl, ha, rfl, _, _, rfl, hI, _, rfl, fi_t (by cases r <;> rfl) ⟨_, r31, _, _, _, _, rfl, ha, rfl, _, rfl, _, _, _, r.length, itemV m, rfl, rfl, hI, by rw [List.length_append, List.length_map]; show r.length + 1 ≤ 10000; lia, ?_, by rw [List.getElem?_append_right (by rw [List.length_map]; exact Nat.le_refl _), List.length_map, Nat.sub_self]; rfl, ?_⟩⟩
      · unfold place
        rw [List.length_append, List.length_map, if_neg (by decide), if_pos (by show (0 : Int) ≤ -1 + ((r.length + 1 : Nat) : Int); lia)]
        congr 1
        show (-1 + ((r.length + 1 : Nat) : Int)).toNat = _
        lia
      · cases m with
        | some s =>
          rw [trim_some] at q
          exact isN_f vN ⟨_, rfl, fi_f rfl (fi_f rfl (q _ G))⟩
        | none =>
          rw [trim_none] at q
          have G₂ := G.ok.setItems r
          exact isN_t ⟨_, rfl, fi_t rfl (fi_t rfl ⟨_, r31, _, _, _, _, rfl, ha, rfl, _, _, _, rfl, hI, by rw [List.length_map]; first | exact lim_of (by assumption) (by rfl) | (show _ ≤ 10000; lia), while_trim O r31 N r _ (by lia) (by lia) (G.trans G₂) q⟩)⟩
theorem set_fm {α : Type} {s : α} : ∀ {l : List (Option α)} {p : Nat}, l[p]? = some (some s) → (l.filterMap id).Perm (s :: (l.set p none).filterMap id)
  | [], p, h => by cases h
  | o :: r, 0, h => by cases h; exact .refl _
  | o :: r, p + 1, h => by
    have := set_fm (s := s) (l := r) (p := p) h
    cases o with
    | none => exact this
    | some x => exact (this.cons x).trans (.swap ..)
theorem delete_ok (O : Ok F w σ) (N : Nice w) (T : Tiny w) {i : Int} (q : ∀ w' σ' v, Vl F w' σ' v (del (xv w) i).1 → Op F w σ w' σ' (del (xv w) i).2 0 → Q v σ') : callF fi (n+4) 23 [.ref F.ct, .ref F.arr, .int i] Q E σ := by
  obtain ⟨wk, h⟩ := O.arr
  have S := T.small
  have hT := T.xs
  have hL := T.last
  have hl := len_lim S
  have ea : atI (xv w) i = (atI w.xs i).map Sc.d := atI_map _ _ _
  refine ⟨_, _, rfl, rfl, _, rfl, _, rfl, evs_nil <| has_element_ok O S ?_⟩
  cases e : atI w.xs i with
  | none =>
    have ed : del (xv w) i = (.none, xv w) := by unfold del; rw [ea, e]; rfl
    rw [ed] at q
    exact ⟨_, rfl, if_t rfl (q w σ _ .none (.refl O N))⟩
  | some s =>
    obtain ⟨h1, h2⟩ := at_get e
    obtain ⟨p, hp⟩ := Int.eq_ofNat_of_zero_le h1
    rw [hp, Int.toNat_natCast] at h2
    have hlt := (List.getElem?_eq_some_iff.mp h2).1
    have ed : del (xv w) i = (s.d, if p + 1 = w.xs.length then trim ((xv w).set p none) else (xv w).set p none) := by
      unfold del; rw [ea, e, xv_len, hp, Int.toNat_natCast]; rfl
    rw [ed] at q
    have pm := N.full.trans (set_fm h2)
    have G := O.setItems (w.xs.set p none)
    have pl : place (w.xs.map itemV).length (p : Int) = some p := by unfold place; rw [if_pos (Int.natCast_nonneg p), if_pos (by rw [len_eq]; lia)]; rfl
    have xm : (w.xs.set p none).map (Option.map Sc.d) = (xv w).set p none := (List.map_set (f := Option.map Sc.d) (a := none)).symm ▸ rfl
    refine ⟨_, rfl, if_f rfl ⟨_, rfl, _, rfl, evs_nil <| element_place_ok O S ?_⟩⟩
    rw [hp]
    refine ⟨_, rfl, _, _, _, _, rfl, h, rfl, _, rfl, idx_I (o := some s) O S (Int.natCast_nonneg p) (by rw [Int.toNat_natCast]; exact h2) ⟨_, rfl, _, _, _, _, rfl, h, rfl, _, rfl, w.I, p, _, p, rfl, rfl, O.I, hl, pl, ?_⟩⟩
    rw [show (w.xs.map itemV).set p .none = (w.xs.set p none).map itemV from (List.map_set (f := itemV) (a := none)).symm]
    obtain ⟨wk₂, ha⟩ := G.ok.arr
    have hl2 : ((w.xs.set p none).map itemV).length ≤ lim := by rw [List.length_map, List.length_set]; exact len_xs S.xs
    have el : (((w.xs.set p none).map itemV).length : Int) = w.xs.length := by rw [len_eq, List.length_set]
    refine ⟨_, rfl, _, rfl, _, _, _, _, rfl, ha, rfl, _, _, rfl, G.ok.I, hl2, _, _, rfl, rfl, trivial, _, _, rfl, rfl, _, rfl, fun c => ?_, fun c => ?_⟩
    · have c : (p : Int) = (((w.xs.set p none).map itemV).length : Int) - 1 := of_decide_eq_true c
      rw [el] at c
      rw [if_pos (by lia)] at q
      refine ⟨w.xs.length + 1, while_trim O rfl _ (w.xs.set p none) _ (by rw [List.length_set]; lia) (by lia) G fun σ' G' => ⟨_, rfl, _, rfl, evs_nil <| rm_ok (m := some s) G'.ok ⟨?_, N.zp, N.pd, N.h3, Nat.le_of_ble_eq_true rfl, by show w.last ≤ 1100; lia⟩ fun w' σ' v V P => q w' σ' v V ⟨G'.trans P.go, P.nice, P.ys, ?_, P.last⟩⟩⟩
      · show w.live.Perm (s :: (trim (w.xs.set p none)).filterMap id); rw [trim_fm]; exact pm
      · rw [P.xv, xv, ← trim_map, xm]
    · have c : ¬ (p : Int) = (((w.xs.set p none).map itemV).length : Int) - 1 := of_decide_eq_false c
      rw [el] at c
      rw [if_neg (by lia)] at q
      exact ⟨_, rfl, _, rfl, evs_nil <| rm_ok (m := some s) G.ok ⟨pm, N.zp, N.pd, N.h3, Nat.le_of_ble_eq_true rfl, by show w.last ≤ 1100; lia⟩ fun w' σ' v V P => q w' σ' v V ⟨G.trans P.go, P.nice, P.ys, P.xv.trans xm, P.last⟩⟩
end
end
section
set_option tactic.hygienic false
open PySem PySem.W
section
variable {F : Fx} {w w' w'' : Wd} {σ σ' σ'' : AH} {Q : AV → AH → Prop} {E : EX} {n : Nat}
theorem Op.tiny {X : List (Option D)} {m : Nat} (P : Op F w σ w' σ' X m) (h : X.length ≤ 100) (h2 : w.last + (m : Nat) ≤ 200) : Tiny w' := ⟨by rw [P.len]; exact h, by rw [P.last]; exact h2⟩
theorem All2.mem_map {is : List Int} {vs : List AV} (h : vs = is.map AV.int) : All2 (fun v (i : Int) => v = .int i) vs is := by
  subst h
  have := All2.maps (R := fun v (i : Int) => v = .int i) (f := AV.int) (g := id) (l := is) fun x Ω => rfl
  rwa [List.map_id] at this
theorem slice_values_ok (O : Ok F w σ) (N : Nice w) (S : Small w) {l : Nat} {is : List Int} (L : At_ F w σ l (.list (is.map AV.int))) (hi : is.length ≤ 1000)
    (q : ∀ σ' ys a, Go F w σ w σ' → All2 (Vl F w σ') ys (is.map fun i => od (atI (xv w) i)) → σ' a = none → Q (.ref a) (σ'.put a (.list ys))) : callF fi (n+4) 29 [.ref F.arr, .ref l] Q E σ := by
  refine ⟨_, _, rfl, rfl, _, rfl, _, _, rfl, L.at_, by rw [List.length_map]; first | exact lim_of (by assumption) (by rfl) | (show _ ≤ 10000; lia), comp_go (R := fun v (i : Int) => v = .int i) (ds := is) (f := fun i => od (atI (xv w) i)) (T := fun σ => Vl F w σ) O (All2.mem_map rfl) (fun σ₁ G => (G.st.at_ _ _ L).at_) ?_ (fun Ω Ω Ω Ω G h => h.st G.st) q⟩
  rintro σ₁ v i G rfl Q' k
  exact ⟨_, rfl, _, rfl, evs_nil <| element_value_ok G.ok N S fun v V => k _ _ (.refl G.ok) V⟩
theorem slice_scalars_ok (O : Ok F w σ) (N : Nice w) (T : Tiny w) {l : Nat} {is : List Int} (L : At_ F w σ l (.list (is.map AV.int))) (hi : is.length ≤ 3) (hx : w.xs.length ≤ 90) (hw : w.last ≤ 190)
    (e : ∀ w' σ' m, (opns (xv w) is).1 = none → som (opns (xv w) is).2 = som (xv w) + m → m ≤ 3 → ((opns (xv w) is).2.length = (xv w).length ∨ (opns (xv w) is).2.length ≤ 12) → Op F w σ w' σ' (opns (xv w) is).2 m → E σ')
    (q : ∀ w' σ' m ps ss a, (opns (xv w) is).1 = some ps → som (opns (xv w) is).2 = som (xv w) + m → m ≤ 3 → ((opns (xv w) is).2.length = (xv w).length ∨ (opns (xv w) is).2.length ≤ 12) → Op F w σ w' σ' (opns (xv w) is).2 m → All2 (fun s p => w'.xs[p]? = some (some s)) ss ps → σ' a = none → Q (.ref a) (σ'.put a (.list (ss.map Sc.v)))) :
    callF fi (n+7) 30 [.ref F.ct, .ref F.arr, .ref l, .int 12] Q E σ := by
  refine ⟨_, _, rfl, rfl, _, rfl, _, _, rfl, L.at_, by rw [List.length_map]; first | exact lim_of (by assumption) (by rfl) | (show _ ≤ 10000; lia), comp_ind (fun r ys σ' => ∃ i₁ i₂ w' m ps ss, r = i₂.map AV.int ∧ is.length = i₁ + i₂.length ∧ m ≤ i₁ ∧ opns (xv w) is = ((opns (xv w') i₂).1.map (ps ++ ·), (opns (xv w') i₂).2) ∧ som (xv w') = som (xv w) + m ∧ ((xv w').length = (xv w).length ∨ (xv w').length ≤ 12) ∧ Op F w σ w' σ' (xv w') m ∧
    All2 (fun s p => w'.xs[p]? = some (some s)) ss ps ∧ ys = ss.map Sc.v) ?_ ?_ ?_ ⟨0, is, w, 0, [], [], rfl, (Nat.zero_add _).symm, Nat.le_refl _, ?_, rfl, .inl rfl, .refl O N, .nil, rfl⟩⟩
  · rintro v r ys σ₁ ⟨i₁, i₂, w', m, ps, ss, e1, e2, e3, e4, e5, e6, P, A, rfl⟩ Q' k
    cases i₂ with
    | nil => cases e1
    | cons i i₂ =>
      cases e1
      rw [List.length_cons] at e2
      have hxl := P.len
      have hxw := xv_len (w := w)
      have T' : Tiny w' := P.tiny (by lia) (by lia)
      refine ⟨_, rfl, _, rfl, _, rfl, _, rfl, evs_nil <| element_scalar_ok P.go.ok P.nice T' (fun h => ?_) fun w₂ σ₂ p X m₂ s h hs h1 hX P₂ hp mono => k _ _ ⟨i₁ + 1, i₂, w₂, m + m₂, ps ++ [p], ss ++ [s], rfl, by lia, by lia, ?_, ?_, ?_, ?_, ?_, by rw [List.map_append]; rfl⟩⟩
      · have eo : opns (xv w) is = (none, xv w') := by rw [e4]; unfold opns; rw [h]; rfl
        rw [eo] at e
        exact e w' σ₁ m rfl e5 (by lia) e6 P
      · rw [e4, P₂.xv]; conv => lhs; unfold opns
        rw [h]
        dsimp only
        rw [Option.map_map]
        congr 2
        funext z; exact (List.append_assoc ps [p] z).symm
      · rw [P₂.xv, hs, e5, Nat.add_assoc]
      · rw [P₂.xv]; lia
      · have := P.trans P₂
        rw [P₂.xv]; exact this
      · exact (A.mono fun s p h => mono p s h).append (.cons hp .nil)
  · rintro r ys σ₁ ⟨i₁, i₂, w', m, ps, ss, e1, e2, e3, e4, e5, e6, P, A, rfl⟩
    exact (P.go.st.at_ _ _ L).at_
  · rintro ys σ₁ ⟨i₁, i₂, w', m, ps, ss, e1, e2, e3, e4, e5, e6, P, A, rfl⟩ a ha
    cases i₂ with
    | cons => cases e1
    | nil =>
      have eo : opns (xv w) is = (some ps, xv w') := by rw [e4]; unfold opns; rw [Option.map_some, List.append_nil]
      rw [eo] at q
      rw [List.length_nil] at e2
      exact q w' σ₁ m ps ss a rfl e5 (by lia) e6 P A ha
  · cases opns (xv w) is with
    | mk a b => cases a <;> rfl
theorem del_len {l : List (Option D)} {i : Int} : (del l i).2.length ≤ l.length := by
  unfold del
  split
  · exact Nat.le_refl _
  · dsimp only
    split
    · unfold trim
      rw [List.length_reverse]
      exact Nat.le_trans (List.dropWhile_sublist _).length_le (by rw [List.length_reverse, List.length_set]; exact Nat.le_refl _)
    · rw [List.length_set]; exact Nat.le_refl _
theorem delete_slice_ok (O : Ok F w σ) (N : Nice w) (T : Tiny w) {l : Nat} {is : List Int} (L : At_ F w σ l (.list (is.map AV.int))) (hi : is.length ≤ 1000)
    (q : ∀ w' σ' us a, All2 (Vl F w' σ') us (dels (xv w) is).1 → Op F w σ w' σ' (dels (xv w) is).2 0 → σ' a = none → Q (.ref a) (σ'.put a (.list us))) : callF fi (n+5) 31 [.ref F.ct, .ref F.arr, .ref l] Q E σ := by
  refine ⟨_, _, rfl, rfl, _, rfl, _, _, rfl, L.at_, by rw [List.length_map]; first | exact lim_of (by assumption) (by rfl) | (show _ ≤ 10000; lia), comp_ind (fun r ys σ' => ∃ i₂ w' ds, r = i₂.map AV.int ∧ dels (xv w) is = (ds ++ (dels (xv w') i₂).1, (dels (xv w') i₂).2) ∧ Op F w σ w' σ' (xv w') 0 ∧ (xv w').length ≤ (xv w).length ∧ All2 (Vl F w' σ') ys ds) ?_ ?_ ?_ ⟨is, w, [], rfl, rfl, .refl O N, Nat.le_refl _, .nil⟩⟩
  · rintro v r ys σ₁ ⟨i₂, w', ds, e1, e2, P, e3, A⟩ Q' k
    cases i₂ with
    | nil => cases e1
    | cons i i₂ =>
      cases e1
      have T' : Tiny w' := P.tiny (Nat.le_trans e3 (by rw [xv_len]; exact T.xs)) (by have := T.last; lia)
      refine ⟨_, rfl, _, rfl, _, rfl, evs_nil <| delete_ok P.go.ok P.nice T' fun w₂ σ₂ v V P₂ => k _ _ ⟨i₂, w₂, ds ++ [(del (xv w') i).1], rfl, ?_, ?_, ?_, (A.mono fun Ω Ω h => h.st P₂.go.st).append (.cons V .nil)⟩⟩
      · rw [e2, P₂.xv, List.append_assoc]; rfl
      · rw [P₂.xv]; exact P.trans P₂
      · rw [P₂.xv]; exact Nat.le_trans del_len e3
  · rintro r ys σ₁ ⟨i₂, w', ds, e1, e2, P, e3, A⟩
    exact (P.go.st.at_ _ _ L).at_
  · rintro ys σ₁ ⟨i₂, w', ds, e1, e2, P, e3, A⟩ a ha
    cases i₂ with
    | cons => cases e1
    | nil =>
      have eo : dels (xv w) is = (ds, xv w') := by rw [e2]; unfold dels; rw [List.append_nil]
      rw [eo] at q
      exact q w' σ₁ ys a A P ha
end
end
section
set_option tactic.hygienic false
open PySem PySem.W
noncomputable def fil (l : List (Option D)) (j : Nat) : List (Option D) := (l.take j).map (fun o => some (od o)) ++ l.drop j
section
variable {F : Fx} {w w' w'' : Wd} {σ σ' σ'' : AH} {Q : AV → AH → Prop} {E : EX} {n : Nat}
theorem fil_len {l : List (Option D)} {j : Nat} : (fil l j).length = l.length := by unfold fil; rw [List.length_append, List.length_map, List.length_take, List.length_drop, Nat.add_comm, Nat.min_comm, Nat.sub_add_min_cancel]
theorem fil_mk {l : List (Option D)} {j : Nat} (h : j < l.length) : mkX (fil l j) j = fil l (j + 1) := by
  have e1 : ((l.take j).map fun o => some (od o)).length = j := by rw [List.length_map, List.length_take]; lia
  have e2 : (fil l j)[j]? = some l[j] := by
    unfold fil
    rw [List.getElem?_append_right (by lia), e1, Nat.sub_self, List.getElem?_drop, Nat.add_zero, List.getElem?_eq_getElem h]
  have e3 : l.drop j = l[j] :: l.drop (j + 1) := List.drop_eq_getElem_cons h
  have e4 : fil l (j + 1) = ((l.take j).map fun o => some (od o)) ++ some (od l[j]) :: l.drop (j + 1) := by
    unfold fil
    rw [List.take_succ_eq_append_getElem h, List.map_append, List.append_assoc]; rfl
  unfold mkX
  rw [e2, e4]
  unfold fil
  cases e : l[j] with
  | none =>
    show List.set _ _ _ = _
    rw [List.set_append_right _ _ (by lia), e1, Nat.sub_self, e3, e]; rfl
  | some d =>
    show _ ++ _ = _
    rw [e3, e]; rfl
theorem fil_all {l : List (Option D)} : fil l l.length = l.map fun o => some (od o) := by unfold fil; rw [List.take_length, List.drop_length, List.append_nil]
theorem all_some {f : Option D → D} : ∀ {xs : List (Option Sc)} {l : List (Option D)}, xs.map (Option.map Sc.d) = l.map (fun o => some (f o)) → ∃ ss : List Sc, xs = ss.map some
  | [], _, _ => ⟨[], rfl⟩
  | o :: xs, [], h => by cases h
  | o :: xs, x :: l, h => by
    injection h with h1 h2
    obtain ⟨ss, rfl⟩ := all_some h2
    cases o with
    | none => cases h1
    | some s => exact ⟨s :: ss, rfl⟩
theorem fill_loop (O : Ok F w σ) (N : Nice w) (hx : w.xs.length ≤ 100) (hw : w.last + w.xs.length ≤ 200) {k : Ks} : ∀ (d j : Nat) (w₁ : Wd) (σ₁ : AH) (m : Nat) (ρ : Loc), j + d = w.xs.length → m ≤ j → som (fil (xv w) j) = som (xv w) + m → Op F w σ w₁ σ₁ (fil (xv w) j) m → ρ 25 = some (.ref F.ct) → ρ 31 = some (.ref F.arr) →
    (∀ w' σ' m ρ, som (fil (xv w) w.xs.length) = som (xv w) + m → m ≤ w.xs.length → Op F w σ w' σ' (fil (xv w) w.xs.length) m → ρ 31 = some (.ref F.arr) → k.next ρ σ') →
    forN (fun ρ k σ => exs (callF fi (n+4)) (.cons (.ite (.e (.u .isN (.b .idx (.u (.attr 8) (.loc 31)) (.loc 39)))) (.cons (.setI (.u (.attr 8) (.loc 31)) (.loc 39) (.mcall (.loc 25) 559 45 27 (.cons .none .nil))) .nil) .nil) .nil) ρ k σ) 39 k ((List.range' j d).map fun (k : Nat) => AV.int (k : Int)) ρ σ₁
  | 0, j, w₁, σ₁, m, ρ, h, hm, hs, P, r25, r31, q => by
    have : j = w.xs.length := h
    subst this
    exact q _ _ m _ hs hm P r31
  | d + 1, j, w₁, σ₁, m, ρ, h, hm, hs, P, r25, r31, q => by
    have hl := P.len
    rw [fil_len, xv_len] at hl
    have hj : j < (xv w).length := by rw [xv_len]; lia
    refine mk_ok P.go.ok P.nice (P.tiny (by rw [fil_len, xv_len]; exact hx) (by lia)) (p := j) (by lia) (ρ := ρ.put 39 (.int j)) r25 r31 rfl fun w₂ σ₂ m₂ s hm₂ h1 P₂ Ω Ω Ω => ?_
    rw [P.xv, fil_mk hj] at P₂ hm₂
    exact fill_loop O N hx hw d (j + 1) w₂ σ₂ (m + m₂) _ (by lia) (by lia) (by lia) (P.trans P₂) r25 r31 q
theorem intsR_range {N : Nat} : intsR 0 N = (List.range' 0 N).map fun (k : Nat) => AV.int (k : Int) := by
  unfold intsR
  rw [Int.sub_zero, Int.toNat_natCast, List.range_eq_range']
  exact List.map_congr_left fun k Ω => by rw [Int.zero_add]
theorem array_scalars_ok (O : Ok F w σ) (N : Nice w) (hx : w.xs.length ≤ 100) (hw : w.last + w.xs.length ≤ 200)
    (q : ∀ w' σ' m (ss : List Sc) a, ((xv w).map fun o => some (od o)).length = som (xv w) + m → w'.xs = ss.map some → Op F w σ w' σ' ((xv w).map fun o => some (od o)) m → σ' a = none → Q (.ref a) (σ'.put a (.list (ss.map Sc.v)))) : callF fi (n+5) 28 [.ref F.ct, .ref F.arr] Q E σ := by
  obtain ⟨wk, h⟩ := O.arr
  have hl : (w.xs.map itemV).length ≤ lim := by rw [List.length_map]; first | exact lim_of (by assumption) (by rfl) | (show _ ≤ 10000; lia)
  refine ⟨_, _, rfl, rfl, _, rfl, _, _, _, _, rfl, h, rfl, _, _, rfl, O.I, hl, _, _, rfl, rfl, ⟨by decide, by decide⟩, ⟨by show -((10000 : Nat) : Int) ≤ _; lia, by show _ ≤ ((10000 : Nat) : Int); have := len_eq (f := itemV) (l := w.xs); lia⟩, ?_⟩
  rw [len_eq, intsR_range]
  refine fill_loop O N hx hw w.xs.length 0 w σ 0 _ (Nat.zero_add _) (Nat.le_refl _) rfl (.refl O N) rfl rfl fun w' σ' m ρ hm hm2 P r31 => ?_
  obtain ⟨wk, h⟩ := P.go.ok.arr
  have e : fil (xv w) w.xs.length = (xv w).map fun o => some (od o) := by rw [← xv_len]; exact fil_all
  rw [e] at P hm
  obtain ⟨ss, hss⟩ := all_some P.xv
  have hI := P.go.ok.I
  rw [hss, it_some] at hI
  have hle := P.len
  rw [List.length_map, xv_len, hss, List.length_map] at hle
  refine ⟨_, r31, _, _, _, _, rfl, h, rfl, _, _, rfl, hI, by rw [List.length_map]; first | exact lim_of (by assumption) (by rfl) | (show _ ≤ 10000; lia), fun a ha => q w' σ' m ss a ?_ hss P ha⟩
  rw [← hm]
  have : ∀ l : List (Option D), som (l.map fun o => some (od o)) = (l.map fun o => some (od o)).length := fun l => by
    unfold som
    rw [show (l.map fun o => some (od o)) = (l.map od).map some from by rw [List.map_map]; rfl]
    generalize l.map od = z
    induction z with
    | nil => rfl
    | cons a r ih => exact congrArg (· + 1) ih
  exact (this _).symm
theorem reversed_ok {m : Nat} {us : List AV} (h : σ m = some (.list us)) (hl : us.length ≤ lim) (q : ∀ a, σ a = none → Q (.ref a) (σ.put a (.list us.reverse))) : callF fi (n+1) 33 [.ref m] Q E σ :=
  ⟨_, _, rfl, rfl, _, rfl, _, _, rfl, h, hl, q⟩
theorem repeated_ok {m : Nat} {us : List AV} {c : Int} (h : σ m = some (.list us)) (hl : us.length ≤ 1000) (hc : us ≠ [] → c ≤ 1000) (e : 30 < c * us.length → E σ)
    (q : ∀ a, ¬ (us ≠ [] ∧ 30 < c * us.length) → σ a = none → Q (.ref a) (σ.put a (.list (List.replicate c.toNat us).flatten))) : callF fi (n+1) 34 [.ref m, .int c, .int 30] Q E σ := by
  have small : c < 1 ∨ us = [] → (List.replicate c.toNat us).flatten = [] := fun z => by
    rcases z with z | z
    · rw [show c.toNat = 0 by lia]; rfl
    · subst z; induction c.toNat with
      | zero => rfl
      | succ k ih => rw [List.replicate_succ, List.flatten_cons, ih]; rfl
  have big : c < 1 → ¬ (30 < c * us.length) := fun z => by
    have := Int.mul_le_mul_of_nonneg_right (show c ≤ 0 by lia) (Int.natCast_nonneg us.length)
    lia
  refine ⟨_, _, rfl, rfl, _, rfl, _, _, rfl, rfl, _, rfl, fun c₁ => if_t rfl ⟨Nat.zero_le _, fun a ha => ?_⟩, fun c₁ => ⟨_, rfl, _, _, rfl, h, _, rfl, ?_⟩⟩
  · have c₁ : c < 1 := of_decide_eq_true c₁
    have := q a (fun z => big c₁ z.2) ha
    rw [small (.inl c₁)] at this
    exact this
  · have c₁ : ¬ c < 1 := of_decide_eq_false c₁
    cases us with
    | nil =>
      refine ⟨fun Ω => if_t rfl ⟨Nat.zero_le _, fun a ha => ?_⟩, fun e => nomatch e⟩
      have := q a (fun z => z.1 rfl) ha
      rw [small (.inr rfl)] at this
      exact this
    | cons u r =>
      have hc := hc nofun
      have hlen : ((u :: r).length : Int) ≤ 1000 := Int.ofNat_le.mpr hl
      refine ⟨fun e => (nomatch e), fun Ω => if_f rfl ⟨_, rfl, _, rfl, _, _, rfl, h, by first | exact lim_of (by assumption) (by rfl) | (show _ ≤ 10000; lia), _, _, rfl, rfl, ⟨by show c.natAbs ≤ 1099511627776; lia, Nat.le_trans hl (by decide)⟩, _, rfl, _, _, rfl, rfl, _, rfl, fun c₂ => ?_, fun c₂ => ?_⟩⟩
      · exact e (of_decide_eq_true c₂)
      · have c₂ : ¬ 30 < c * ((u :: r).length : Int) := of_decide_eq_false c₂
        have k : ((u :: r).length * c.toNat : Nat) ≤ 30 := by
          have : (((u :: r).length * c.toNat : Nat) : Int) = c * ((u :: r).length : Int) := by rw [Int.natCast_mul, Int.mul_comm, Int.toNat_of_nonneg (by lia)]
          exact Int.ofNat_le.mp (by rw [this]; exact Int.not_lt.mp c₂)
        exact ⟨_, rfl, _, rfl, _, _, _, rfl, rfl, h, ⟨by lia, by show c ≤ ((10000 : Nat) : Int); lia⟩, by first | exact lim_of (by assumption) (by rfl) | (show _ ≤ 10000; lia), fun a ha => q a (fun z => c₂ z.2) ha⟩
noncomputable def lastD (ds : List D) : D := ds.getLast?.getD .none
theorem value_of_vl {v d} (V : Vl F w σ v d) (q : Q v σ) : callF fi (n+1) 8 [v] Q E σ := by
  cases V with
  | none => exact value_of_v nofun q
  | int i => exact value_of_v nofun q
  | str s hso => exact value_of_v nofun q
  | ref h => exact ⟨_, _, rfl, rfl, _, rfl, isI_f h.at_ rfl ⟨_, rfl, if_t rfl ⟨_, rfl, q⟩⟩⟩
theorem All2.length {α β : Type} {R : α → β → Prop} {as bs} (h : All2 R as bs) : as.length = bs.length := by
  induction h with
  | nil => rfl
  | cons _ _ ih => exact congrArg (· + 1) ih
theorem All2.get {α β : Type} {R : α → β → Prop} {as : List α} {bs : List β} (h : All2 R as bs) : ∀ {p : Nat} {b : β}, bs[p]? = some b → ∃ a, as[p]? = some a ∧ R a b := by
  induction h with
  | nil => intro p b e; cases e
  | cons r _ ih => intro p b e; cases p with
    | zero => cases e; exact ⟨_, rfl, r⟩
    | succ p => exact ih e
theorem last_member_ok {m : Nat} {us : List AV} {ds : List D} (h : σ m = some (.list us)) (hl : us.length ≤ 1000) (V : All2 (Vl F w σ) us ds) (q : ∀ v, Vl F w σ v (lastD ds) → Q v σ) : callF fi (n+2) 35 [.ref m] Q E σ := by
  refine ⟨_, _, rfl, rfl, _, rfl, _, _, rfl, h, _, rfl, ?_⟩
  cases us with
  | nil => cases V; exact if_t rfl (q _ .none)
  | cons u r =>
    cases ds with
    | nil => cases V
    | cons d r' =>
      have hd : (d :: r')[r.length]? = some (lastD (d :: r')) := by
        have e : r.length = r'.length := Nat.succ.inj V.length
        unfold lastD
        rw [List.getLast?_eq_getElem?, e]
        show (d :: r')[r'.length]? = some (((d :: r')[r'.length]?).getD .none)
        rw [List.getElem?_eq_getElem (by rw [List.length_cons]; lia)]; rfl
      obtain ⟨v, hv, R⟩ := V.get hd
      refine if_f rfl ⟨_, rfl, _, rfl, _, _, _, r.length, v, rfl, rfl, h, by first | exact lim_of (by assumption) (by rfl) | (show _ ≤ 10000; lia), ?_, hv, evs_nil <| value_of_vl R (q v R)⟩
      unfold place
      rw [if_neg (by decide), List.length_cons, if_pos (by show (0 : Int) ≤ -1 + ((r.length + 1 : Nat) : Int); lia)]
      congr 1
      show (-1 + ((r.length + 1 : Nat) : Int)).toNat = _
      lia
end
end
section
set_option tactic.hygienic false
open PySem PySem.W
section
variable {F : Fx} {w w' w'' : Wd} {σ σ' σ'' : AH} {Q : AV → AH → Prop} {E : EX} {n : Nat}
theorem set_self {α : Type} {x : α} : ∀ {l : List α} {p : Nat}, l[p]? = some x → l.set p x = l
  | [], p, h => by cases h
  | a :: r, 0, h => by cases h; rfl
  | a :: r, p + 1, h => congrArg (a :: ·) (set_self (l := r) (p := p) h)
theorem store_ok (O : Ok F w σ) (N : Nice w) {p : Nat} {s : Sc} (hs : w.xs[p]? = some (some s)) {v d} (V : Vl F w σ v d)
    (q : ∀ w' σ', Op F w σ w' σ' ((xv w).set p (some d)) 0 → (∀ (p' : Nat) (t : Sc), w.xs[p']? = some (some t) → ∃ t', w'.xs[p']? = some (some t') ∧ t'.a = t.a) → Q .none σ') : callF fi (n+3) 44 [.ref F.ct, .ref s.a, v] Q E σ := by
  obtain ⟨P, hct, hP⟩ := O.ct
  have hlt := (List.getElem?_eq_some_iff.mp hs).1
  have ms : s ∈ w.live := N.mem (List.mem_of_getElem? hs)
  obtain ⟨wk, v₀, h, V₀, B⟩ := (O.live s ms).ex
  refine ⟨_, _, rfl, rfl, _, rfl, _, _, _, _, rfl, hct.at_, rfl, ⟨_, _, rfl, hP.at_⟩, _, rfl, _, _, _, _, rfl, h, rfl, ⟨_, _, rfl, rfl, hP.at_, _, rfl, _, _, _, _, rfl, h, rfl, isNN_f ⟨_, rfl, if_f rfl ⟨_, rfl, _, _, _, _, rfl, h, rfl, _, rfl, _, _, rfl, hct.at_, rfl, _, rfl, evs_nil <| take_ok O V fun σ₁ G => ?_⟩⟩⟩⟩
  have pm : w.live.Perm (s :: (w.xs.set p none).filterMap id) := N.full.trans (set_fm hs)
  obtain ⟨wk₁, v₁, h₁, V₁, B₁⟩ := (G.ok.live s ms).ex
  have hV : Vl F w σ₁ v d := (V.st G.st).same rfl
  let w₂ := w.scTo ({ s with d := d } :: (w.xs.set p none).filterMap id) w.zs (s.d :: w.pd) (w.xs.set p (some { s with d := d }))
  have em : w₂.xs.map itemV = w.xs.map itemV := by
    show (w.xs.set p _).map itemV = _
    rw [List.map_set]
    exact set_self (by rw [List.getElem?_map, hs]; rfl)
  have ap := G.ok.apart (pm.append_right w.zs)
  have pn : ((w.live ++ w.zs).map Sc.n).Perm ((w₂.live ++ w₂.zs).map Sc.n) := (pm.append_right w.zs).map Sc.n
  have G₂ : Go F (w.pdTo (d :: w.pd)) σ₁ w₂ (σ₁.put s.a (.inst 59 (scF s.n 1 wk₁ v))) := by
    have S : Step F (w.pdTo (d :: w.pd)) σ₁ w₂ (σ₁.put s.a (.inst 59 (scF s.n 1 wk₁ v))) := G.ok.mutStep h₁ rfl rfl fun b z => z
    refine G.ok.setSc (s := s) (List.mem_append_left _ ms) rfl em (cnt_perm ?_) (pn.nodup_iff.mp G.ok.ndn) (fun t m => ?_) (fun t m => ?_) fun t m => .inl ⟨ap t (List.mem_append_right _ m), m⟩
    · refine (((pm.append_right w.zs).map Sc.d).append_right (d :: w.pd)).trans ?_
      show (s.d :: _ ++ d :: w.pd).Perm (d :: _ ++ s.d :: w.pd)
      exact (List.perm_middle (l₁ := s.d :: ((w.xs.set p none).filterMap id ++ w.zs).map Sc.d)).trans (List.Perm.cons d (List.perm_middle (l₁ := ((w.xs.set p none).filterMap id ++ w.zs).map Sc.d) (a := s.d) (l₂ := w.pd)).symm)
    · have : t.n ∈ (w.live ++ w.zs).map Sc.n := pn.mem_iff.mpr (List.mem_map_of_mem m)
      obtain ⟨u, hu, e⟩ := List.mem_map.mp this
      rw [← e]; exact G.ok.rng u hu
    · rcases List.mem_cons.mp m with e | m
      · subst e; exact .inr ⟨wk₁, v, put_eq, ((V.st G.st).st S), S.at_ _ _ B₁⟩
      · exact .inl ⟨ap t (List.mem_append_left _ m), pm.mem_iff.mpr (.tail _ m)⟩
  refine ⟨_, rfl, _, _, _, rfl, h₁, Nat.le_of_ble_eq_true rfl, _, rfl, _, _, rfl, (G₂.st.at_ _ _ (G.st.at_ _ _ hct)).at_, rfl, _, rfl, _, rfl, evs_nil <| put_off_ok (p := w.pd) G₂.ok (((V₀.st G.st).st G₂.st)) rfl fun σ₃ G₃ Ω => q _ σ₃ ⟨G.trans (G₂.trans G₃), ⟨?_, N.zp, N.pd, N.h3⟩, rfl, ?_, (Int.add_zero _).symm⟩ fun p' t ht => ?_⟩
  · show List.Perm _ ((w.xs.set p (some _)).filterMap id)
    have := fm_set (s := ({ s with d := d } : Sc)) (l := w.xs.set p none) (p := p) (by rw [List.getElem?_set_self hlt])
    rw [List.set_set] at this
    exact this.symm
  · show (w.xs.set p _).map _ = _
    rw [List.map_set]; rfl
  · show ∃ t', (w.xs.set p _)[p']? = _ ∧ _
    by_cases e : p = p'
    · subst e
      rw [hs] at ht
      cases ht
      exact ⟨_, List.getElem?_set_self hlt, rfl⟩
    · exact ⟨t, by rw [List.getElem?_set_ne e]; exact ht, rfl⟩
theorem ls_step {K : Ks} {ρ' : Loc} {p i : Int} {m f : Nat} {us vs : List AV} {ys : List (Option D)} {σ₀ : AH} (r30 : ρ' 30 = some (.ref m)) (r44 : ρ' 44 = some (.ref f)) (r39 : ρ' 39 = some (.int p)) (hp : p = (if i < 0 then i + ys.length else i)) (hm : σ m = some (.list us)) (hl : us.length ≤ 1000)
    (V : All2 (Vl F w σ₀) us (ys.map od)) (hf : σ f = some (.list vs)) (hv : vs.length < lim) (k : ∀ v, Vl F w σ₀ v (od (atI ys i)) → K.next ρ' (σ.put f (.list (vs ++ [v])))) :
    ex (callF fi n) (.expr (.m1 .append (.loc 44) (.ite (.tch .le .lt (.int 0) (.loc 39) (.u .len (.loc 30))) (.b .idx (.loc 30) (.loc 39)) .none))) ρ' K σ := by
  have hlen := V.length
  rw [List.length_map] at hlen
  have ho : 0 ≤ p → p = plc ys.length i := fun h => (plc_of hp h).symm
  have hn : ¬ (0 ≤ p ∧ p < ys.length) → od (atI ys i) = .none := fun h => by
    have : atI ys i = none := by
      unfold atI
      by_cases h1 : plc ys.length i < 0
      · rw [if_pos h1]
      · have : p = plc ys.length i := hp.trans (plc_val (Int.not_lt.mp h1)).symm
        rw [if_neg h1, List.getElem?_eq_none ((Int.le_toNat (Int.not_lt.mp h1)).mpr (Int.not_lt.mp fun c => h ⟨this ▸ Int.not_lt.mp h1, this ▸ c⟩))]; rfl
    rw [this]; rfl
  refine ⟨_, r44, ⟨_, _, rfl, hf⟩, _, r39, _, _, rfl, rfl, fun c => ⟨_, rfl, if_f rfl ⟨_, _, rfl, hf, hv, ?_⟩⟩, fun c => ⟨_, r30, _, _, rfl, hm, by first | exact lim_of (by assumption) (by rfl) | (show _ ≤ 10000; lia), _, rfl, _, rfl, fun c₂ => ?_, fun c₂ => ⟨_, _, rfl, hf, hv, ?_⟩⟩⟩
  · have c : ¬ 0 ≤ p := of_decide_eq_false c
    have := hn (fun z => c z.1)
    exact k .none (this ▸ .none)
  · have c : 0 ≤ p := of_decide_eq_true c
    have c₂ : p < (us.length : Int) := of_decide_eq_true c₂
    have e := ho c
    have e2 : (ys.map od)[p.toNat]? = some (od (atI ys i)) := by
      unfold atI
      rw [← e, if_neg (by lia), List.getElem?_map, List.getElem?_eq_getElem (show p.toNat < ys.length by lia)]
      rfl
    obtain ⟨v, hv', R⟩ := V.get e2
    exact ⟨_, r30, _, r39, _, _, _, p.toNat, v, rfl, rfl, hm, by first | exact lim_of (by assumption) (by rfl) | (show _ ≤ 10000; lia), by unfold place; rw [if_pos c, if_pos c₂], hv', _, _, rfl, hf, hv, k v R⟩
  · have c : 0 ≤ p := of_decide_eq_true c
    have c₂ : ¬ p < (us.length : Int) := of_decide_eq_false c₂
    have := hn (fun z => c₂ (by lia))
    exact k .none (this ▸ .none)
theorem list_slice_ok (O : Ok F w σ) {m l : Nat} {us : List AV} {ys : List (Option D)} {is : List Int} (hm : σ m = some (.list us)) (hl : us.length ≤ 1000) (V : All2 (Vl F w σ) us (ys.map od)) (L : σ l = some (.list (is.map AV.int))) (hi : is.length ≤ 1000)
    (q : ∀ vs a, All2 (Vl F w σ) vs (if ys = [] then [] else is.map fun i => od (atI ys i)) → σ a = none → Q (.ref a) (σ.put a (.list vs))) : callF fi (n+1) 32 [.ref m, .ref l] Q E σ := by
  refine ⟨_, _, rfl, rfl, _, rfl, _, _, rfl, hm, _, rfl, ?_⟩
  have hlen := V.length
  rw [List.length_map] at hlen
  cases us with
  | nil =>
    have : ys = [] := List.eq_nil_of_length_eq_zero hlen.symm
    rw [if_pos this] at q
    exact if_t rfl ⟨Nat.zero_le _, fun a ha => q [] a .nil ha⟩
  | cons u r =>
    rw [if_neg (fun e => by rw [e] at hlen; cases hlen)] at q
    refine if_f rfl ⟨Nat.zero_le _, fun f hf => ⟨_, rfl, l, is.map AV.int, rfl, put_new hf L, ?_⟩⟩
    have hm' : ∀ vs, (σ.put f (.list vs)) m = some (.list (u :: r)) := fun vs => put_new hf hm
    suffices H : ∀ (i₂ : List Int) (i₁ : List Int) (vs : List AV) (ρ : Loc) (k : Ks), i₁.length + i₂.length = is.length → All2 (Vl F w σ) vs (i₁.map fun i => od (atI ys i)) → ρ 30 = some (.ref m) → ρ 44 = some (.ref f) →
        (∀ ρ vs, All2 (Vl F w σ) vs ((i₁ ++ i₂).map fun i => od (atI ys i)) → ρ 44 = some (.ref f) → k.next ρ (σ.put f (.list vs))) →
        forL (fun ρ k σ => exs (callF fi n) (.cons (.assign 39 (.ite (.e (.b (.cmp .lt) (.loc 38) (.int 0))) (.b (.ar .add) (.loc 38) (.u .len (.loc 30))) (.loc 38))) (.cons (.expr (.m1 .append (.loc 44) (.ite (.tch .le .lt (.int 0) (.loc 39) (.u .len (.loc 30))) (.b .idx (.loc 30) (.loc 39)) .none))) .nil)) ρ k σ) 38 l (is.map AV.int) k (i₂.map AV.int) ρ (σ.put f (.list vs)) from
      H is [] [] _ _ (Nat.zero_add _) .nil rfl rfl fun ρ vs A e => ⟨_, e, q vs f A hf⟩
    intro i₂
    induction i₂ with
    | nil => intro i₁ vs ρ k hn A r30 r44 hk; exact ⟨put_new hf L, hk ρ vs (by rw [List.append_nil]; exact A) r44⟩
    | cons i i₂ ih =>
      intro i₁ vs ρ k hn A r30 r44 hk
      rw [List.length_cons] at hn
      have hvl := A.length
      rw [List.length_map] at hvl
      have st : ∀ (ρ' : Loc) (p : Int), ρ' 30 = some (.ref m) → ρ' 44 = some (.ref f) → ρ' 39 = some (.int p) → p = (if i < 0 then i + ys.length else i) → _ := fun ρ' p r1 r2 r3 e =>
        ls_step (n := n) (w := w) (F := F) (σ₀ := σ) (i := i) (K := (Ks.lp k (fun ρ σ => exs (callF fi n) .nil ρ (Ks.lp k (forL _ 38 l (is.map AV.int) k (i₂.map AV.int))) σ))) r1 r2 r3 e (hm' vs) hl V (f := f) put_eq (by show _ < 10000; lia) fun v hv => by
          rw [aput_put]
          exact ih (i₁ ++ [i]) (vs ++ [v]) ρ' k (by rw [List.length_append, ← hn]; simp; lia) (by rw [List.map_append]; exact A.append (.cons hv .nil)) r1 r2 (by rw [List.append_assoc]; exact hk)
      refine ⟨put_new hf L, _, rfl, _, _, rfl, rfl, _, rfl, fun c => ?_, fun c => ?_⟩
      · have c : i < 0 := of_decide_eq_true c
        exact ⟨_, rfl, _, r30, _, _, rfl, hm' vs, by first | exact lim_of (by assumption) (by rfl) | (show _ ≤ 10000; lia), _, _, rfl, rfl, trivial, st _ _ r30 r44 rfl (by rw [if_pos c, ← hlen]; rfl)⟩
      · have c : ¬ i < 0 := of_decide_eq_false c
        exact ⟨_, rfl, st _ _ r30 r44 rfl (by rw [if_neg c])⟩
end
end
section
set_option tactic.hygienic false
open PySem PySem.W
section
variable {F : Fx} {w w' w'' : Wd} {σ σ' σ'' : AH} {Q : AV → AH → Prop} {E : EX} {n : Nat}
theorem Ok.gput (O : Ok F w σ) {a : Nat} {i : Int} {fs : List (Nat × AV)} {o : AO} (h : σ a = some (.inst 59 ((0, .int i) :: fs))) (i1 : i ≠ 1) (hn : ∀ t ∈ w.live ++ w.zs, t.n ≠ i) : Go F w σ w (σ.put a o) := by
  have S : Step F w σ w (σ.put a o) := O.mutStep h rfl rfl fun b z => z
  obtain ⟨lm, h1⟩ := O.hp
  obtain ⟨P, h2, h3⟩ := O.ct
  obtain ⟨ka, h4⟩ := O.arr
  obtain ⟨k0, h5⟩ := O.t0
  obtain ⟨k1, J1, h6⟩ := O.t1
  obtain ⟨cs, h7, h8⟩ := O.C
  obtain ⟨x, y⟩ := O.scs S fun s m => let ⟨_, fs, e, _⟩ := O.sub m; (put_nu h e fun z => hn s m z.symm).trans e.symm
  exact ⟨⟨⟨lm, put_cl h h1 rfl⟩, ⟨P, S.at_ _ _ h2, S.at_ _ _ h3⟩, ⟨ka, put_cl h h4 rfl⟩, ⟨k0, put_nu h h5 i1⟩, ⟨k1, J1, put_cl h h6 rfl⟩, put_cl h O.I rfl, put_cl h O.Z rfl, ⟨cs, put_cl h h7 rfl, h8.mono fun Ω Ω c => c.st S⟩, O.nd, O.owns (O.notOwn h rfl), x, y, O.ndn, O.rng⟩, S⟩
theorem held_by_ok {a : Nat} {fs : List (Nat × AV)} (h : σ a = some (.inst 59 fs)) (q : ∀ b c, σ b = none → (σ.put b (.list [])) c = none → Q (.ref c) ((σ.put b (.list [])).put c (.list []))) : callF fi (n+1) 37 [.ref a] Q E σ :=
  ⟨_, _, rfl, rfl, _, rfl, isI_f h rfl ⟨_, rfl, if_f rfl ⟨_, rfl, isI_f h rfl ⟨_, rfl, if_f rfl ⟨_, rfl, isI_f h rfl ⟨_, rfl, if_f rfl ⟨_, rfl, isI_f h rfl ⟨_, rfl, if_f rfl ⟨Nat.zero_le _, fun b hb => ⟨_, rfl, b, rfl, put_eq, fun c hc => q b c hb hc⟩⟩⟩⟩⟩⟩⟩⟩⟩⟩
theorem empty_out_ok {a : Nat} {fs : List (Nat × AV)} (h : σ a = some (.inst 59 fs)) (q : Q .none σ) : callF fi (n+1) 68 [.ref a] Q E σ :=
  ⟨_, _, rfl, rfl, _, rfl, isI_f h rfl ⟨_, rfl, if_f rfl ⟨_, rfl, isI_f h rfl ⟨_, rfl, if_f rfl ⟨_, rfl, isI_f h rfl ⟨_, rfl, if_f rfl ⟨_, rfl, isI_f h rfl ⟨_, rfl, if_f rfl q⟩⟩⟩⟩⟩⟩⟩⟩
theorem finish_ok {u : AV} {a : Nat} {i : Int} {wk : Nat} {v : AV} (h : σ a = some (.inst 59 (scF i 0 wk v))) (q : Q .none σ) : callF fi (n+1) 48 [u, .ref a] Q E σ :=
  ⟨_, _, rfl, rfl, _, rfl, _, _, _, _, rfl, h, rfl, _, _, rfl, rfl, _, rfl, if_f rfl ⟨_, rfl, _, _, _, _, rfl, h, rfl, isN_t ⟨_, rfl, if_t rfl (if_t rfl q)⟩⟩⟩
theorem free_ok (O : Ok F w σ) {s : Sc} {z : List Sc} (hz : w.zs.Perm (s :: z)) (q : ∀ σ', Go F w σ (w.lzTo w.live z) σ' → Q .none σ') : callF fi (n+3) 49 [.ref F.ct, .ref s.a] Q E σ := by
  obtain ⟨P, hct, hP⟩ := O.ct
  have pm : (w.live ++ w.zs).Perm (s :: (w.live ++ z)) := (hz.append_left w.live).trans List.perm_middle
  have ms : s ∈ w.zs := hz.mem_iff.mpr (.head _)
  have rg := O.rng s (List.mem_append_right _ ms)
  obtain ⟨wk, v, h, V, B⟩ := (O.zs s ms).ex
  have ap := O.apart pm
  have nd := (pm.map Sc.n).nodup_iff.mp O.ndn
  have G₁ : ∀ o, Go F w σ (w.scTo w.live z (s.d :: w.pd) w.xs) (σ.put s.a o) := fun o =>
    O.setSc (List.mem_append_right _ ms) rfl rfl (cnt_perm (((pm.map Sc.d).append_right w.pd).trans (List.perm_middle (l₁ := (w.live ++ z).map Sc.d) (a := s.d) (l₂ := w.pd)).symm)) (List.nodup_cons.mp nd).2 (fun t m => O.rng t (pm.mem_iff.mpr (.tail _ m)))
      (fun t m => .inl ⟨ap t (List.mem_append_left _ m), m⟩) fun t m => .inl ⟨ap t (List.mem_append_right _ m), hz.mem_iff.mpr (.tail _ m)⟩
  refine ⟨_, _, rfl, rfl, _, rfl, _, _, _, rfl, h, Nat.le_of_ble_eq_true rfl, _, rfl, _, _, _, _, rfl, put_eq, rfl, wk, [], rfl, ((G₁ _).st.at_ _ _ B).at_, ((G₁ _).st.at_ _ _ B).at_, Nat.zero_le _, fun b hb => ?_⟩
  have hne : s.a ≠ b := fun e => by rw [← e, put_eq] at hb; cases hb
  have G₂ := (G₁ _).trans ((G₁ _).ok.new hb (.list []))
  refine ⟨_, rfl, _, _, _, rfl, (put_ne hne).trans put_eq, Nat.le_of_ble_eq_true rfl, ?_⟩
  have gp : ∀ {σ₁ : AH} {fs : List (Nat × AV)} {o : AO}, Go F w σ (w.scTo w.live z (s.d :: w.pd) w.xs) σ₁ → σ₁ s.a = some (.inst 59 ((0, .int s.n) :: fs)) → Go F w σ (w.scTo w.live z (s.d :: w.pd) w.xs) (σ₁.put s.a o) := fun G h => G.trans (G.ok.gput h (by lia) ap)
  have G₃ := gp (o := .inst 59 (setF (setF (scF s.n 0 wk v) 5 (.bool true)) 3 (.ref b))) G₂ ((put_ne hne).trans put_eq)
  refine ⟨_, rfl, isI_t put_eq rfl ⟨_, rfl, if_t rfl ⟨_, rfl, _, _, _, _, rfl, (G₃.st.at_ _ _ hct).at_, rfl, ⟨_, _, rfl, (G₃.st.at_ _ _ hP).at_⟩, _, rfl, _, _, _, _, rfl, put_eq, rfl, _, _, rfl, rfl, (G₃.st.at_ _ _ hP).at_, _, rfl, _, _, _, _, rfl, put_eq, rfl, _, rfl, _, _, _, rfl, put_eq, Nat.le_of_ble_eq_true rfl, ?_⟩⟩⟩
  have G₄ := gp (o := .inst 59 (setF (setF (setF (scF s.n 0 wk v) 5 (.bool true)) 3 (.ref b)) 6 .none)) G₃ put_eq
  refine ⟨_, rfl, _, _, rfl, (G₄.st.at_ _ _ hct).at_, rfl, _, rfl, _, rfl, evs_nil <| put_off_ok (p := w.pd) G₄.ok (V.st G₄.st) rfl fun σ₅ G₅ hσ => ?_⟩
  have hs : ∃ fs, σ₅ s.a = some (.inst 59 fs) := by
    rcases hσ with e | ⟨k, o, e⟩
    · exact ⟨_, e ▸ put_eq⟩
    · obtain ⟨wk', J, ht⟩ := G₄.ok.tk k
      cases k with
      | false => exact ⟨_, e ▸ put_nu ht put_eq (by show (1 : Int) ≠ s.n; lia)⟩
      | true => exact ⟨_, e ▸ put_cl ht put_eq rfl⟩
  obtain ⟨fs, hs⟩ := hs
  refine ⟨_, rfl, evs_nil <| held_by_ok hs fun b c hb hc => ?_⟩
  have G₆ := (G₄.trans G₅).trans ((G₅.ok.new hb (.list [])).trans ((G₅.ok.new hb (.list [])).ok.new hc (.list [])))
  exact ⟨_, rfl, evs_nil <| empty_out_ok (put_new hc (put_new hb hs)) ⟨_, rfl, c, [], rfl, put_eq, put_eq, q _ G₆⟩⟩
theorem perm_map_ex {α β : Type} {f : α → β} {l₁ l₂ : List β} (h : l₁.Perm l₂) : ∀ ts : List α, l₁ = ts.map f → ∃ ts' : List α, ts'.Perm ts ∧ l₂ = ts'.map f := by
  induction h with
  | nil => intro ts e; exact ⟨ts, .refl _, e⟩
  | cons x _ ih =>
    intro ts e
    cases ts with
    | nil => cases e
    | cons t ts =>
      injection e with e1 e2
      obtain ⟨ts', p, e⟩ := ih ts e2
      exact ⟨t :: ts', p.cons t, by rw [e1, e]; rfl⟩
  | swap x y l =>
    intro ts e
    match ts, e with
    | a :: b :: ts, e =>
      injection e with e1 e
      injection e with e2 e
      exact ⟨b :: a :: ts, .swap .., by rw [e1, e2, e]; rfl⟩
  | trans _ _ ih₁ ih₂ =>
    intro ts e
    obtain ⟨t₁, p₁, e₁⟩ := ih₁ ts e
    obtain ⟨t₂, p₂, e₂⟩ := ih₂ t₁ e₁
    exact ⟨t₂, p₂.trans p₁, e₂⟩
noncomputable abbrev ent (s : Sc) : Int × AV := (s.n, s.v)
theorem setD_new {i : Int} {v : AV} : ∀ {es : List (Int × AV)}, i ∉ es.map (·.1) → setD es i v = es ++ [(i, v)]
  | [], _ => rfl
  | (j, u) :: r, h => by
    have : j ≠ i := fun e => h (by rw [e]; exact .head _)
    simp only [setD, if_neg this]
    rw [setD_new fun m => h (.tail _ m)]; rfl
theorem getD_mem {s : Sc} : ∀ {ts : List Sc}, (ts.map Sc.n).Nodup → s ∈ ts → getD (ts.map ent) s.n = some s.v
  | t :: ts, nd, m => by
    rw [List.map_cons, List.nodup_cons] at nd
    rcases List.mem_cons.mp m with e | m
    · subst e; exact if_pos rfl
    · have : t.n ≠ s.n := fun e => nd.1 (e ▸ List.mem_map_of_mem m)
      show (if t.n = s.n then _ else _) = _
      rw [if_neg this]; exact getD_mem nd.2 m
theorem in_order_ok (O : Ok F w σ) {l : Nat} {ts : List Sc} (L : σ l = some (.list (ts.map Sc.v))) (hz : ∀ t ∈ ts, t ∈ w.zs) (nd : (ts.map Sc.n).Nodup) (hl : ts.length < 64)
    (q : ∀ σ' (ts' : List Sc) a, ts'.Perm ts → Go F w σ w σ' → σ' a = none → Q (.ref a) (σ'.put a (.list (ts'.map Sc.v)))) : callF fi (n+1) 38 [.ref l] Q E σ := by
  refine ⟨_, _, rfl, rfl, fun f hf => ⟨_, rfl, l, _, rfl, put_new hf L, ?_⟩⟩
  suffices H : ∀ (t₂ t₁ : List Sc) (ρ : Loc) (k : Ks), ts = t₁ ++ t₂ → ρ 44 = some (.ref f) → (∀ ρ, ρ 44 = some (.ref f) → k.next ρ (σ.put f (.dict (ts.map ent)))) →
      forL (fun ρ k σ => exs (callF fi n) (.cons (.ite (.ands (.cons (.e (.b (.cmp .eq) (.u (.attr 1) (.loc 45)) (.int 0))) (.cons (.not (.e (.u (.attr 5) (.loc 45)))) .nil))) (.cons (.setD (.loc 44) (.u (.attr 0) (.loc 45)) (.loc 45)) .nil) .nil) .nil) ρ k σ) 45 l (ts.map Sc.v) k (t₂.map Sc.v) ρ (σ.put f (.dict (t₁.map ent))) from
    H ts [] _ _ rfl rfl fun ρ r44 => ⟨_, r44, f, ts.map ent, rfl, put_eq, by rw [List.length_map]; exact hl, fun a ns ha hp hs => ?_⟩
  · have e : (ts.map ent).map (·.1) = ts.map Sc.n := by rw [List.map_map]; rfl
    rw [e] at hp
    obtain ⟨ts', pt, e'⟩ := perm_map_ex hp.symm ts rfl
    subst e'
    have G₁ := O.new hf (.dict (ts.map ent))
    have G₂ := G₁.trans (G₁.ok.new ha (.list ((ts'.map Sc.n).map AV.int)))
    refine ⟨a, _, rfl, put_eq, by rw [List.length_map, List.length_map, pt.length_eq]; first | exact lim_of (by assumption) (by rfl) | (show _ ≤ 10000; lia), comp_ind (fun r ys σ' => σ' = (σ.put f (.dict (ts.map ent))).put a (.list ((ts'.map Sc.n).map AV.int)) ∧ ∃ a b, ts' = a ++ b ∧ r = (b.map Sc.n).map AV.int ∧ ys = a.map Sc.v) ?_ ?_ ?_ ⟨rfl, [], ts', rfl, rfl, rfl⟩⟩
    · rintro v r ys _ ⟨rfl, a', b, e1, e2, rfl⟩ Q' k
      cases b with
      | nil => cases e2
      | cons s b =>
        cases e2
        have ms : s ∈ ts := pt.mem_iff.mp (by rw [e1]; exact List.mem_append_right _ (.head _))
        exact ⟨_, (if_neg (show ¬ (44 = 0) by decide)).trans ((if_pos (show 44 ∈ [44] by decide)).trans r44), _, rfl, f, s.n, ts.map ent, s.v, rfl, rfl, put_new ha put_eq, getD_mem nd ms, k _ _ ⟨rfl, a' ++ [s], b, by rw [e1, List.append_assoc]; rfl, rfl, by rw [List.map_append]; rfl⟩⟩
    · rintro r ys _ ⟨rfl, _⟩; exact put_eq
    · rintro ys _ ⟨rfl, a', b, e1, e2, rfl⟩ c hc
      cases b with
      | cons => cases e2
      | nil => rw [List.append_nil] at e1; subst e1; exact q _ _ c pt G₂ hc
  · intro t₂
    induction t₂ with
    | nil => intro t₁ ρ k e r44 hk; rw [List.append_nil] at e; subst e; exact ⟨put_new hf L, hk ρ r44⟩
    | cons s t₂ ih =>
      intro t₁ ρ k e r44 hk
      have ms : s ∈ ts := by rw [e]; exact List.mem_append_right _ (.head _)
      obtain ⟨wk, v, h, _, _⟩ := (O.zs s (hz s ms)).ex
      have h' : (σ.put f (.dict (t₁.map ent))) s.a = _ := put_new hf h
      refine ⟨put_new hf L, _, rfl, _, _, _, _, rfl, h', rfl, _, _, rfl, rfl, _, rfl, fi_t rfl ⟨_, rfl, _, _, _, _, rfl, h', rfl, _, rfl, fi_t rfl (if_t rfl ⟨_, rfl, _, r44, _, rfl, _, _, _, _, rfl, h', rfl, f, s.n, t₁.map ent, rfl, rfl, put_eq, ?_, ?_⟩)⟩⟩
      · rw [List.length_map]; rw [e, List.length_append] at hl; lia
      · rw [aput_put, setD_new, show t₁.map ent ++ [(s.n, AV.ref s.a)] = (t₁ ++ [s]).map ent from by rw [List.map_append]; rfl]
        · exact ih (t₁ ++ [s]) _ k (by rw [List.append_assoc]; exact e) r44 hk
        · rw [List.map_map]
          intro m
          rw [e, List.map_append, List.nodup_append] at nd
          exact nd.2.2 s.n m s.n (.head _) rfl
end
end
section
set_option tactic.hygienic false
open PySem PySem.W
section
variable {F : Fx} {w w' w'' : Wd} {σ σ' σ'' : AH} {Q : AV → AH → Prop} {E : EX} {n : Nat}
theorem zs_re (O : Ok F w σ) {z : List Sc} (hz : w.zs.Perm z) : Go F w σ (w.lzTo w.live z) σ := by
  have S : Step F w σ (w.lzTo w.live z) σ := ⟨rfl, fun Ω Ω x => ⟨x.1, x.2, x.3⟩, fun Ω Ω => rfl⟩
  have pm : (w.live ++ w.zs).Perm (w.live ++ z) := hz.append_left _
  have hc : ∀ k, (w.lzTo w.live z).cnt k = w.cnt k := cnt_perm ((pm.map Sc.d).append_right _)
  exact ⟨⟨O.hp, let ⟨P, a, b⟩ := O.ct; ⟨P, ⟨a.1, a.2, a.3⟩, ⟨b.1, b.2, b.3⟩⟩, O.arr, (let ⟨k, e⟩ := O.t0; ⟨k, hc _ ▸ e⟩), (let ⟨k, J, e⟩ := O.t1; ⟨k, J, hc _ ▸ e⟩), O.I, O.Z, (let ⟨cs, a, b⟩ := O.C; ⟨cs, a, b.mono fun Ω Ω c => c.st S⟩), O.nd, O.own,
      fun s m => (O.live s m).st S rfl, fun s m => (O.zs s (hz.mem_iff.mpr m)).st S rfl, (pm.map Sc.n).nodup_iff.mp O.ndn, fun s m => O.rng s (pm.mem_iff.mpr m)⟩, S⟩
theorem finish_loop {ct l : Nat} {cf : List (Nat × AV)} {ts : List Sc} (L : σ l = some (.list (ts.map Sc.v))) (hct : σ ct = some (.inst 559 cf)) (hm : getF cf 58 = none) (h : ∀ s ∈ ts, ∃ wk v, σ s.a = some (.inst 59 (scF s.n 0 wk v))) {k : Ks} : ∀ (t₂ : List Sc) (ρ : Loc), (∀ s ∈ t₂, s ∈ ts) → ρ 22 = some (.ref ct) → ρ 56 = some (.ref l) → ρ 55 = some (.int 0) →
    (∀ ρ, ρ 22 = some (.ref ct) → ρ 56 = some (.ref l) → ρ 55 = some (.int 0) → k.next ρ σ) → forL (fun ρ k σ => exs (callF fi (n+1)) (.cons (.expr (.mcall (.loc 22) 559 48 58 (.cons (.loc 45) .nil))) .nil) ρ k σ) 45 l (ts.map Sc.v) k (t₂.map Sc.v) ρ σ
  | [], ρ, _, r22, r56, r55, hk => ⟨L, hk ρ r22 r56 r55⟩
  | s :: t₂, ρ, hs, r22, r56, r55, hk => by
    obtain ⟨wk, v, hsc⟩ := h s (hs s (.head _))
    exact ⟨L, _, r22, _, _, rfl, hct, hm, _, rfl, evs_nil <| finish_ok hsc (finish_loop L hct hm h t₂ _ (fun t m => hs t (.tail _ m)) r22 r56 r55 hk)⟩
theorem free_loop {l : Nat} {ts : List Sc} {k : Ks} : ∀ (t₂ : List Sc) (z : List Sc) (w : Wd) (σ : AH) (ρ : Loc), Ok F w σ → w.zs.Perm (t₂ ++ z) → At_ F w σ l (.list (ts.map Sc.v)) → ρ 22 = some (.ref F.ct) → ρ 55 = some (.int 0) →
    (∀ σ' ρ, Go F w σ (w.lzTo w.live z) σ' → ρ 22 = some (.ref F.ct) → ρ 55 = some (.int 0) → k.next ρ σ') → forL (fun ρ k σ => exs (callF fi (n+3)) (.cons (.ite (.ands (.cons (.e (.b (.cmp .eq) (.u (.attr 1) (.loc 45)) (.int 0))) (.cons (.not (.e (.u (.attr 5) (.loc 45)))) .nil))) (.cons (.expr (.mcall (.loc 22) 559 49 57 (.cons (.loc 45) .nil))) .nil) .nil) .nil) ρ k σ) 45 l (ts.map Sc.v) k (t₂.map Sc.v) ρ σ
  | [], z, w, σ, ρ, O, hz, L, r22, r55, hk => ⟨L.at_, hk σ ρ (zs_re O hz) r22 r55⟩
  | s :: t₂, z, w, σ, ρ, O, hz, L, r22, r55, hk => by
    obtain ⟨P, hct, _⟩ := O.ct
    obtain ⟨wk, v, h, _, _⟩ := (O.zs s (hz.mem_iff.mpr (.head _))).ex
    exact ⟨L.at_, _, rfl, _, _, _, _, rfl, h, rfl, _, _, rfl, rfl, _, rfl, fi_t rfl ⟨_, rfl, _, _, _, _, rfl, h, rfl, _, rfl, fi_t rfl (if_t rfl ⟨_, r22, _, _, rfl, hct.at_, rfl, _, rfl, evs_nil <| free_ok O hz fun σ₁ G =>
      free_loop t₂ z (w.lzTo w.live (t₂ ++ z)) σ₁ _ G.ok (.refl _) (G.st.at_ _ _ L) r22 r55 fun σ' ρ G' r r' => hk σ' ρ (G.trans G') r r'⟩)⟩⟩
theorem settle_ok (O : Ok F w σ) (N : Nice w) (hl : w.last < 67) (q : ∀ w' σ', Ok F w' σ' → Step F w σ w' σ' → w'.zs = [] → w'.live = w.live → w'.pd = w.pd → w'.ys = w.ys → Q .none σ') : callF fi (n+4) 47 [.ref F.ct, .int 0] Q E σ := by
  obtain ⟨P, hct, _⟩ := O.ct
  obtain ⟨lm, hhp⟩ := O.hp
  have hz := O.zlen N.zp N.h3
  have hzl : (w.zl.map Sc.v).length ≤ lim := by rw [List.length_map]; first | exact lim_of (by assumption) (by rfl) | (show _ ≤ 10000; lia)
  cases ez : w.zl with
  | nil =>
    refine ⟨_, _, rfl, rfl, 1, _, rfl, _, _, _, _, rfl, hct.at_, rfl, _, _, _, _, rfl, hhp, rfl, _, _, rfl, O.Z, hzl, _, rfl, _, _, rfl, rfl, _, rfl, fi_f ?_ (q w σ O .rfl ?_ rfl rfl rfl)⟩
    · rw [ez]; rfl
    · have := N.zp; rw [ez] at this; exact this.nil_eq.symm
  | cons s₀ r₀ =>
    have Zs := O.Z
    refine ⟨_, _, rfl, rfl, 2, _, rfl, _, _, _, _, rfl, hct.at_, rfl, _, _, _, _, rfl, hhp, rfl, _, _, rfl, Zs, hzl, _, rfl, _, _, rfl, rfl, _, rfl, fi_t ?_ ⟨_, rfl, _, _, _, _, rfl, hct.at_, rfl, _, _, _, _, rfl, hhp, rfl, _, rfl, w.Z, w.zl.map Sc.v, 0, (w.zl.map Sc.v).length, rfl, Zs, hzl, loB_nat (b := 0) (Nat.zero_le _), rfl, fun l hlst => evs_nil ?_⟩⟩
    · rw [ez]; exact decide_eq_true (show (0 : Int) < ((r₀.map Sc.v).length + 1 : Nat) by lia)
    · have ec : cut (w.zl.map Sc.v) 0 (w.zl.map Sc.v).length = w.zl.map Sc.v := by unfold cut; rw [List.drop_zero, Nat.sub_zero, List.take_length]
      rw [ec]
      have G₁ := O.new hlst (.list (w.zl.map Sc.v))
      have pz : (w.zl.map Sc.n).Nodup := by
        have := O.ndn
        rw [List.map_append, List.nodup_append] at this
        exact (N.zp.map Sc.n).nodup_iff.mpr this.2.1
      refine in_order_ok G₁.ok (ts := w.zl) put_eq (fun t m => N.zp.mem_iff.mp m) pz (by lia) fun σ₁ ts' a pt G ha => ?_
      have G₂ := G₁.trans (G.trans (G.ok.new ha (.list (ts'.map Sc.v))))
      have L := G.ok.newAt ha (show imm (.list (ts'.map Sc.v)) = true from rfl)
      have hct₂ := (G₂.st.at_ _ _ hct).at_
      obtain ⟨lm₂, hhp₂⟩ := G₂.ok.hp
      refine ⟨_, rfl, _, _, _, _, rfl, hct₂, rfl, _, _, _, _, rfl, hhp₂, rfl, _, rfl, w.Z, w.zl.map Sc.v, 0, 0, rfl, G₂.ok.Z, hzl, rfl, hiB_nat (b := 0) (Nat.zero_le _), fun m hm => ?_⟩
      have hhp₃ := put_new (o := .list (cut (w.zl.map Sc.v) 0 0)) hm hhp₂
      have hct₃ := put_new (o := .list (cut (w.zl.map Sc.v) 0 0)) hm hct₂
      refine ⟨_, rfl, _, _, _, _, rfl, hct₃, rfl, _, _, _, rfl, hhp₃, Nat.le_of_ble_eq_true rfl, ?_⟩
      have O₄ : Ok F (w.zTo m []) _ := (G₂.ok.own_new hm (o := .list (cut (w.zl.map Sc.v) 0 0)) rfl).instZ (zl := []) (put_eq.trans (by unfold cut; rw [Nat.sub_self, List.take_zero]; rfl)) hhp₃
      have S₄ : Step F w _ (w.zTo m []) _ := Step.pop hm ((G₂.ok.own_new hm (o := .list (cut (w.zl.map Sc.v) 0 0)) rfl).mutStep (o := .inst 218 (hpF lm₂ w.last m)) hhp₃ rfl rfl fun b z => z) G₂.ok rfl (muts_swapZ (zl := []))
      have L₄ := S₄.at_ _ _ L
      have hct₄ := (S₄.at_ _ _ (G₂.st.at_ _ _ hct)).at_
      have pz' : ∀ s ∈ ts', s ∈ w.zs := fun s m => N.zp.mem_iff.mp (pt.mem_iff.mp m)
      refine ⟨_, rfl, a, _, rfl, L₄.at_, finish_loop L₄.at_ hct₄ rfl (fun s m => let ⟨wk, v, h, _⟩ := (O₄.zs s (pz' s m)).ex; ⟨wk, v, h⟩) ts' _ (fun Ω m => m) rfl rfl rfl fun ρ r22 r56 r55 => ?_⟩
      refine ⟨_, r56, a, _, rfl, L₄.at_, free_loop ts' [] (w.zTo m []) _ ρ O₄ ((N.zp.symm.trans pt.symm).trans (by rw [List.append_nil])) L₄ r22 r55 fun σ' ρ G r22 r55 => ?_⟩
      obtain ⟨lm₅, hhp₅⟩ := G.ok.hp
      exact ⟨_, r22, _, _, _, _, rfl, (G.st.at_ _ _ (S₄.at_ _ _ (G₂.st.at_ _ _ hct))).at_, rfl, _, _, _, _, rfl, hhp₅, rfl, _, _, rfl, G.ok.Z, Nat.zero_le _, _, r55, _, _, rfl, rfl, _, rfl, fi_f rfl (q _ σ' G.ok ((G₂.st.trans S₄).trans G.st) rfl rfl rfl rfl)⟩
end
end
section
set_option tactic.hygienic false
open PySem PySem.W
section
variable {F : Fx} {w w' w'' : Wd} {σ σ' σ'' : AH} {Q : AV → AH → Prop} {E : EX} {n : Nat}
theorem Ok.num (O : Ok F w σ) (k : Bool) : ∃ C fs, σ (F.tk k) = some (.inst C ((0, .int (Mine.num k)) :: fs)) := by
  cases k with
  | false => obtain ⟨wk, h⟩ := O.t0; exact ⟨_, _, h⟩
  | true => obtain ⟨wk, J, h⟩ := O.t1; exact ⟨_, _, h⟩
theorem told_ok (O : Ok F w σ) {v d} (V : Vl F w σ v d) (q : ∀ σ' u, Go F w σ w σ' → Tl F w σ' u d → Q u σ') : callF fi (n+1) 51 [v] Q E σ := by
  cases V with
  | none => exact ⟨_, _, rfl, rfl, _, rfl, isI_v nofun ⟨_, rfl, if_f rfl ⟨_, rfl, q σ _ (.refl O) .none⟩⟩⟩
  | int i => exact ⟨_, _, rfl, rfl, _, rfl, isI_v nofun ⟨_, rfl, if_f rfl ⟨_, rfl, q σ _ (.refl O) (.int i)⟩⟩⟩
  | str s hso => exact ⟨_, _, rfl, rfl, _, rfl, isI_v nofun ⟨_, rfl, if_f rfl ⟨_, rfl, q σ _ (.refl O) (.str s hso)⟩⟩⟩
  | @ref r k h =>
    obtain ⟨C, fs, ht⟩ := O.num k
    exact ⟨_, _, rfl, rfl, _, rfl, isI_t h.at_ rfl ⟨_, rfl, if_t rfl ⟨_, rfl, _, _, _, _, rfl, h.at_, rfl, _, _, _, _, rfl, ht, rfl, Nat.le_of_ble_eq_true rfl, fun a ha => q _ _ (O.new ha _) (.ref (O.newAt ha rfl))⟩⟩⟩
theorem all_ok (O : Ok F w σ) {l : Nat} {vs : List AV} {ds : List D} (L : At_ F w σ l (.list vs)) (hl : vs.length ≤ 1000) (V : All2 (Vl F w σ) vs ds) (q : ∀ σ' us a, Go F w σ w σ' → All2 (Tl F w σ') us ds → σ' a = none → Q (.ref a) (σ'.put a (.list us))) : callF fi (n+2) 52 [.ref l] Q E σ := by
  refine ⟨_, _, rfl, rfl, _, rfl, _, _, rfl, L.at_, by first | exact lim_of (by assumption) (by rfl) | (show _ ≤ 10000; lia), comp_go (R := Vl F w σ) (ds := ds) (f := id) (T := fun σ => Tl F w σ) O V (fun σ₁ G => (G.st.at_ _ _ L).at_) ?_ (fun Ω Ω Ω Ω G h => h.st G.st) fun σ' ys a G A ha => q σ' ys a G (by rwa [List.map_id] at A) ha⟩
  intro σ₁ v d G V Q' k
  exact ⟨_, rfl, evs_nil <| told_ok G.ok (V.st G.st) k⟩
theorem made_ok (O : Ok F w σ) {l : Nat} {vs : List AV} {ds : List D} (L : At_ F w σ l (.list vs)) (hl : vs.length ≤ 1000) (V : All2 (Vl F w σ) vs ds) (q : ∀ σ' us a, Go F w σ w σ' → All2 (Cl F w σ') us (ds.map some) → σ' a = none → Q (.ref a) (σ'.put a (.list us))) : callF fi (n+2) 55 [.ref l] Q E σ := by
  refine ⟨_, _, rfl, rfl, _, rfl, _, _, rfl, L.at_, by first | exact lim_of (by assumption) (by rfl) | (show _ ≤ 10000; lia), comp_go (R := Vl F w σ) (ds := ds) (f := id) (T := fun σ v d => Cl F w σ v (some d)) O V (fun σ₁ G => (G.st.at_ _ _ L).at_) ?_ (fun Ω Ω Ω Ω G h => h.st G.st) fun σ' ys a G A ha => q σ' ys a G ?_ ha⟩
  · intro σ₁ v d G V Q' k
    exact ⟨_, rfl, evs_nil <| told_ok G.ok (V.st G.st) fun σ₂ u G₂ T => ⟨Nat.le_of_ble_eq_true rfl, fun c hc => k _ _ (G₂.trans (G₂.ok.new hc _)) (.some (G₂.ok.newAt hc rfl) (T.st (G₂.ok.new hc (.list [u])).st))⟩⟩
  · rw [List.map_id] at A
    clear q V
    induction A with
    | nil => exact .nil
    | cons a _ ih => exact .cons a ih
theorem of_ok {v o} (C : Cl F w σ v o) (q : ∀ u, Tl F w σ u (od o) → Q u σ) : callF fi (n+1) 56 [v] Q E σ := by
  cases C with
  | none => exact ⟨_, _, rfl, rfl, _, rfl, isN_t ⟨_, rfl, if_t rfl (q _ .none)⟩⟩
  | @some c u d h t => exact ⟨_, _, rfl, rfl, _, rfl, isN_f vN ⟨_, rfl, if_f rfl ⟨_, rfl, _, _, _, 0, u, rfl, rfl, h.at_, Nat.le_of_ble_eq_true rfl, rfl, rfl, q u t⟩⟩⟩
theorem plc_place2 {N : Nat} {i : Int} (h1 : -(N : Int) ≤ i) (h2 : i < N) : 0 ≤ plc N i ∧ plc N i < N ∧ place N i = some (plc N i).toNat := by
  unfold plc place
  by_cases h : i < 0
  · rw [if_pos h, if_neg (by lia), if_neg (by lia), if_pos (by lia)]
    exact ⟨by lia, by lia, rfl⟩
  · rw [if_neg h, if_pos (by lia), if_pos h2]
    exact ⟨by lia, h2, rfl⟩
theorem atI_out {α : Type} {l : List (Option α)} {i : Int} (h : ¬ (-(l.length : Int) ≤ i ∧ i < l.length)) : atI l i = none := by
  unfold atI
  by_cases h1 : plc l.length i < 0
  · rw [if_pos h1]
  · rw [if_neg h1, List.getElem?_eq_none]
    · rfl
    · unfold plc at h1 ⊢; split <;> (try split) <;> simp_all <;> lia
theorem atI_in {α : Type} {l : List (Option α)} {i : Int} (h1 : -(l.length : Int) ≤ i) (h2 : i < l.length) : l[(plc l.length i).toNat]? = some (atI l i) := by
  obtain ⟨a, b, _⟩ := plc_place2 h1 h2
  unfold atI
  rw [if_neg (by lia), List.getElem?_eq_getElem (by lia)]; rfl
theorem at_ok (O : Ok F w σ) (hl : w.ys.length ≤ 1000) {i : Int} (q : ∀ v, Cl F w σ v (atI w.ys i) → Q v σ) : callF fi (n+1) 57 [.ref F.C, .int i] Q E σ := by
  obtain ⟨cs, hC, A⟩ := O.C
  have e := A.length
  have hb : cs.length ≤ lim := by first | exact lim_of (by assumption) (by rfl) | (show _ ≤ 10000; lia)
  refine ⟨_, _, rfl, rfl, _, rfl, _, _, rfl, hC, hb, _, rfl, _, rfl, _, _, rfl, rfl, fun c => ⟨_, rfl, if_f rfl ?_⟩, fun c => ⟨_, rfl, _, _, rfl, hC, hb, _, rfl, _, rfl, fun c₂ => ?_, fun c₂ => ?_⟩⟩
  · have c : ¬ -(cs.length : Int) ≤ i := of_decide_eq_false c
    exact q _ (by rw [atI_out (by lia)]; exact .none)
  · have c : -(cs.length : Int) ≤ i := of_decide_eq_true c
    have c₂ : i < (cs.length : Int) := of_decide_eq_true c₂
    obtain ⟨v, hv, R⟩ := A.get (atI_in (l := w.ys) (i := i) (by lia) (by lia))
    exact ⟨_, rfl, _, rfl, _, _, _, _, v, rfl, rfl, hC, hb, by rw [e]; exact (plc_place2 (by lia) (by lia)).2.2, hv, q v R⟩
  · have c₂ : ¬ i < (cs.length : Int) := of_decide_eq_false c₂
    exact q _ (by rw [atI_out (by lia)]; exact .none)
theorem ref_init_ok {a t : Nat} (h : σ a = some (.inst 155 [])) (q : Q .none (σ.put a (.inst 155 (rfF t)))) : callF fi (n+1) 3 [.ref a, .ref t] Q E σ :=
  ⟨_, _, rfl, rfl, _, rfl, _, rfl, _, _, _, rfl, h, Nat.zero_le _, _, rfl, _, rfl, _, _, _, rfl, put_eq, Nat.le_of_ble_eq_true rfl, by rw [aput_put]; exact q⟩
theorem value_ok (O : Ok F w σ) {T : Nat} (hT : At_ F w σ T (.list [.ref F.t0, .ref F.t1])) {i : Int} (q : ∀ σ' v d, Go F w σ w σ' → Vl F w σ' v d → Q v σ') : callF fi (n+2) 53 [.int i, .ref T] Q E σ := by
  have hm := Int.emod_nonneg i (show (6 : Int) ≠ 0 by decide)
  have hm2 := Int.emod_lt_of_pos i (show (0 : Int) < 6 by decide)
  have ef : AOp.mod.on i 6 = i % 6 := Int.fmod_eq_emod_of_nonneg i (by decide)
  have mk : ∀ (k : Bool) (Q : AV → AH → Prop) (E : EX), (∀ σ' v d, Go F w σ w σ' → Vl F w σ' v d → Q v σ') → ∀ a, σ a = none → callF fi (n+1) 3 [.ref a, .ref (F.tk k)] (fun u σ => u = .none ∧ Q (.ref a) σ) (fun Ω => False) (σ.put a (.inst 155 [])) := fun k Q E q a ha =>
    ref_init_ok put_eq ⟨rfl, by rw [aput_put]; exact q _ _ _ (O.new ha _) (.ref (k := k) (O.newAt ha rfl))⟩
  refine ⟨_, _, rfl, rfl, _, rfl, _, _, rfl, rfl, (by show (6 : Int) ≠ 0; decide), _, rfl, _, _, rfl, rfl, _, rfl, fun c => ?_, fun c => ?_⟩
  · have c : AOp.mod.on i 6 < 2 := of_decide_eq_true c
    rw [ef] at c ⊢
    have : i % 6 = 0 ∨ i % 6 = 1 := by lia
    rcases this with e | e
    · rw [e]; exact ⟨_, rfl, _, rfl, _, _, _, 0, _, rfl, rfl, hT.at_, Nat.le_of_ble_eq_true rfl, rfl, rfl, evs_nil <| mk false _ E q⟩
    · rw [e]; exact ⟨_, rfl, _, rfl, _, _, _, 1, _, rfl, rfl, hT.at_, Nat.le_of_ble_eq_true rfl, rfl, rfl, evs_nil <| mk true _ E q⟩
  · have c : ¬ AOp.mod.on i 6 < 2 := of_decide_eq_false c
    rw [ef] at c ⊢
    have k3 : AOp.mod.on (AOp.div.on i 6) 3 = (AOp.div.on i 6) % 3 := Int.fmod_eq_emod_of_nonneg _ (by decide)
    have g1 := Int.emod_nonneg (AOp.div.on i 6) (show (3 : Int) ≠ 0 by decide)
    have g2 := Int.emod_lt_of_pos (AOp.div.on i 6) (show (0 : Int) < 3 by decide)
    refine ⟨_, rfl, _, _, rfl, rfl, ⟨by decide, by decide⟩, _, _, rfl, rfl, (by show (50 : Int) ≠ 0; decide), _, _, rfl, rfl, trivial, _, rfl, _, _, rfl, rfl, ⟨by decide, by decide⟩, _, _, rfl, rfl, (by show (3 : Int) ≠ 0; decide), _, _, rfl, rfl, ?_, ?_, Nat.le_of_ble_eq_true rfl, (by decide +kernel), fun t ht ht2 => ⟨_, _, rfl, rfl, ?_, Nat.le_of_ble_eq_true rfl, fun a ha => ?_⟩⟩
    · rw [k3]; exact g1
    · rw [k3]; lia
    · show 2 + t.length ≤ 10000; lia
    · have G := O.new ha (.list [.none, .int (AOp.sub.on (AOp.mod.on (AOp.div.on i 6) 50) 20), .str (.ofString "ab" ++ t), .str (.ofString "")])
      have : i % 6 = 2 ∨ i % 6 = 3 ∨ i % 6 = 4 ∨ i % 6 = 5 := by lia
      rcases this with e | e | e | e
      · rw [e]; exact ⟨_, rfl, _, _, rfl, rfl, trivial, _, _, _, 0, _, rfl, rfl, put_eq, Nat.le_of_ble_eq_true rfl, rfl, rfl, q _ _ _ G .none⟩
      · rw [e]; exact ⟨_, rfl, _, _, rfl, rfl, trivial, _, _, _, 1, _, rfl, rfl, put_eq, Nat.le_of_ble_eq_true rfl, rfl, rfl, q _ _ _ G (.int _)⟩
      · rw [e]; exact ⟨_, rfl, _, _, rfl, rfl, trivial, _, _, _, 2, _, rfl, rfl, put_eq, Nat.le_of_ble_eq_true rfl, rfl, rfl, q _ _ _ G (.str _ (by show (_ ++ t.cps).all _ = true; rw [Array.all_append]; exact Bool.and_eq_true_iff.mpr ⟨by decide +kernel, ht2⟩))⟩
      · rw [e]; exact ⟨_, rfl, _, _, rfl, rfl, trivial, _, _, _, 3, _, rfl, rfl, put_eq, Nat.le_of_ble_eq_true rfl, rfl, rfl, q _ _ _ G (.str _ (by decide +kernel))⟩
end
end
section
set_option tactic.hygienic false
open PySem PySem.W
section
variable {F : Fx} {w w' w'' : Wd} {σ σ' σ'' : AH} {Q : AV → AH → Prop} {E : EX} {n : Nat}
theorem compN_ind {turn : AV → PT} (P : List AV → List AV → AH → Prop) (step : ∀ v r ys σ, P (v :: r) ys σ → ∀ Q', (∀ y σ', P r (ys ++ [y]) σ' → Q' y σ') → turn v Q' E σ)
    (fin : ∀ ys σ, P [] ys σ → ∀ a, σ a = none → Q (.ref a) (σ.put a (.list ys))) : ∀ {r ys σ}, P r ys σ → compN turn Q E r ys σ
  | [], ys, σ, h => fin _ _ h
  | v :: r, ys, σ, h => step v r ys σ h _ fun y σ' h' => compN_ind P step fin h'
theorem mod_nat {i m : Int} (h : 0 < m) : ∃ k : Nat, AOp.mod.on i m = k ∧ (k : Int) < m := by
  have e : AOp.mod.on i m = i % m := Int.fmod_eq_emod_of_nonneg i (by lia)
  have h1 := Int.emod_nonneg i (show m ≠ 0 by lia)
  obtain ⟨k, hk⟩ := Int.eq_ofNat_of_zero_le h1
  exact ⟨k, e.trans hk, by rw [← hk]; exact Int.emod_lt_of_pos i h⟩
theorem values_ok (O : Ok F w σ) {T : Nat} (hT : At_ F w σ T (.list [.ref F.t0, .ref F.t1])) {i : Int} (q : ∀ σ' vs ds a, Go F w σ w σ' → All2 (Vl F w σ') vs ds → ds.length ≤ 3 → σ' a = none → Q (.ref a) (σ'.put a (.list vs))) : callF fi (n+3) 54 [.int i, .ref T] Q E σ := by
  obtain ⟨K, eK, hK⟩ := mod_nat (i := AOp.div.on i 5) (m := 4) (by decide)
  refine ⟨_, _, rfl, rfl, _, rfl, _, _, rfl, rfl, ⟨by decide, by decide⟩, _, _, rfl, rfl, (by show (4 : Int) ≠ 0; decide), ?_⟩
  rw [eK]
  refine ⟨_, rfl, by show -((10000 : Nat) : Int) ≤ _; lia, by show _ ≤ ((10000 : Nat) : Int); lia, ?_⟩
  rw [intsR_range]
  refine compN_ind (fun r ys σ' => ∃ (j d : Nat) (ds : List D), r = (List.range' j d).map (fun (k : Nat) => AV.int (k : Int)) ∧ j + d = K ∧ ds.length = j ∧ Go F w σ w σ' ∧ All2 (Vl F w σ') ys ds) ?_ ?_ ⟨0, K, [], rfl, Nat.zero_add _, rfl, .refl O, .nil⟩
  · rintro v r ys σ₁ ⟨j, d, ds, e1, e2, e3, G, A⟩ Q' k
    cases d with
    | zero => cases e1
    | succ d =>
      cases e1
      have hj : j = 0 ∨ j = 1 ∨ j = 2 := by lia
      have h7 : (7 : Int) ^ ((j : Nat) : Int).toNat ≠ 0 ∧ ((7 : Int) ^ ((j : Nat) : Int).toNat).natAbs < 1073741824 := by
        rcases hj with e | e | e <;> subst e <;> exact ⟨by decide, by decide⟩
      refine ⟨_, rfl, _, rfl, _, _, rfl, rfl, ⟨by lia, by lia, by decide⟩, _, _, rfl, rfl, h7, _, rfl, evs_nil <| value_ok G.ok (G.st.at_ _ _ hT) fun σ₂ v d' G₂ V => k _ _ ⟨j + 1, d, ds ++ [d'], rfl, by lia, by rw [List.length_append, e3]; rfl, G.trans G₂, (A.mono fun Ω Ω h => h.st G₂.st).append (.cons V .nil)⟩⟩
  · rintro ys σ₁ ⟨j, d, ds, e1, e2, e3, G, A⟩ a ha
    exact q σ₁ ys ds a G A (by lia) ha
theorem grow_loop (O : Ok F w σ) {ρ : Loc} {k : Ks} {p : Nat} (r64 : ρ 64 = some (.ref F.C)) (r39 : ρ 39 = some (.int p)) (hp : p ≤ 1000) : ∀ (d : Nat) (ys : List (Option D)) (σ₁ : AH), ys.length + d = p + 1 → Go F w σ (w.ysTo ys) σ₁ → (∀ σ', Go F w σ (w.ysTo (ys ++ List.replicate d none)) σ' → k.next ρ σ') →
    whileN (fun ρ Q σ => tst (callF fi n) (.e (.b (.cmp .le) (.u .len (.loc 64)) (.loc 39))) ρ Q (fun Ω => False) σ) (fun ρ k σ => exs (callF fi n) (.cons (.expr (.m1 .append (.loc 64) .none)) .nil) ρ k σ) k (d + 1) ρ σ₁
  | 0, ys, σ₁, h, G, q => by
    obtain ⟨cs, hC, A⟩ := G.ok.C
    have e : cs.length = ys.length := A.length
    exact ⟨_, r64, _, _, rfl, hC, by first | exact lim_of (by assumption) (by rfl) | (show _ ≤ 10000; lia), _, r39, _, _, rfl, rfl, _, rfl, fi_f (decide_eq_false (by lia)) (q _ (by rw [List.replicate_zero, List.append_nil]; exact G))⟩
  | d + 1, ys, σ₁, h, G, q => by
    obtain ⟨cs, hC, A⟩ := G.ok.C
    have e : cs.length = ys.length := A.length
    have G₂ := G.ok.setCells (A.append (.cons .none .nil))
    exact ⟨_, r64, _, _, rfl, hC, by first | exact lim_of (by assumption) (by rfl) | (show _ ≤ 10000; lia), _, r39, _, _, rfl, rfl, _, rfl, fi_t (decide_eq_true (by lia)) ⟨_, r64, ⟨_, _, rfl, hC⟩, _, _, rfl, hC, by show _ < 10000; lia,
      grow_loop O r64 r39 hp d (ys ++ [none]) _ (by rw [List.length_append]; show _ + 1 + _ = _; lia) (G.trans G₂) fun σ' G' => q σ' (by rw [List.append_assoc] at G'; exact G')⟩⟩
theorem All2.set {α β : Type} {R : α → β → Prop} {as : List α} {bs : List β} (h : All2 R as bs) {a : α} {b : β} (r : R a b) : ∀ p, All2 R (as.set p a) (bs.set p b) := by
  induction h with
  | nil => intro p; exact .nil
  | cons x y ih => intro p; cases p with
    | zero => exact .cons r y
    | succ p => exact .cons x (ih p)
theorem place_nat {N p : Nat} (h : p < N) : place N (p : Int) = some p := by unfold place; rw [if_pos (Int.natCast_nonneg p), if_pos (by lia)]; rfl
theorem plc_lt {n : Nat} {i p : Int} (hp : p = (if i < 0 then i + n else i)) (h : p < 0) : plc n i < 0 := by
  unfold plc
  by_cases c : i < 0
  · rw [if_pos c] at hp ⊢
    rw [← hp, if_pos h]
    decide
  · rw [if_neg c] at hp
    exact absurd (hp ▸ h) c
theorem grown (n p : Nat) : p < n + (p + 1 - n) := Nat.sub_le_iff_le_add'.mp (Nat.le_refl (p + 1 - n))
theorem grown_le {n p : Nat} (h : p < 12 ∨ p < n) (hn : n ≤ 100) : n + (p + 1 - n) ≤ 112 := by
  rcases Nat.le_total n (p + 1) with z | z
  · rw [Nat.add_sub_of_le z]
    exact h.elim (fun h => Nat.le_trans h (by decide)) fun h => Nat.le_trans h (Nat.le_trans hn (by decide))
  · rw [Nat.sub_eq_zero_of_le z]
    exact Nat.le_trans hn (by decide)
theorem opened_ok (O : Ok F w σ) (hl : w.ys.length ≤ 100) {i : Int} (e : opn w.ys i = none → Q .none σ) (q : ∀ p X σ', opn w.ys i = some (p, X) → Go F w σ (w.ysTo X) σ' → Q (.int (p : Nat)) σ') : callF fi (n+1) 58 [.ref F.C, .int i] Q E σ := by
  obtain ⟨cs, hC, A⟩ := O.C
  have el := A.length
  have hb : cs.length ≤ lim := lim_of (el ▸ hl) rfl
  -- from the place on
  have rest : ∀ (p₀ : Int) (ρ : Loc), ρ 64 = some (.ref F.C) → ρ 39 = some (.int p₀) → p₀ = (if i < 0 then i + w.ys.length else i) →
      exs (callF fi n) (.cons (.ite (.ors (.cons (.e (.b (.cmp .lt) (.loc 39) (.int 0))) (.cons (.ands (.cons (.e (.b (.cmp .ge) (.loc 39) (.int 12))) (.cons (.e (.b (.cmp .ge) (.loc 39) (.u .len (.loc 64)))) .nil))) .nil))) (.cons (.ret .none) .nil) .nil) (.cons (.while (.e (.b (.cmp .le) (.u .len (.loc 64)) (.loc 39))) (.cons (.expr (.m1 .append (.loc 64) .none)) .nil)) (.cons (.ite (.e (.u .isN (.b .idx (.loc 64) (.loc 39)))) (.cons (.setI (.loc 64) (.loc 39) (.list (.cons .none .nil))) .nil) .nil) (.cons (.ret (.loc 39)) .nil))))
        ρ (Ks.fn Q E) σ := by
    intro p₀ ρ r64 r39 hp
    have rest₂ : 0 ≤ p₀ → (p₀ < 12 ∨ p₀ < w.ys.length) → exs (callF fi n) (.cons (.while (.e (.b (.cmp .le) (.u .len (.loc 64)) (.loc 39))) (.cons (.expr (.m1 .append (.loc 64) .none)) .nil)) (.cons (.ite (.e (.u .isN (.b .idx (.loc 64) (.loc 39)))) (.cons (.setI (.loc 64) (.loc 39) (.list (.cons .none .nil))) .nil) .nil) (.cons (.ret (.loc 39)) .nil)))
        ρ (Ks.fn Q E) σ := fun h0 h1 => by
      obtain ⟨p, rfl⟩ := Int.eq_ofNat_of_zero_le h0
      have hpl : plc w.ys.length i = p := plc_of hp h0
      let l' := w.ys ++ List.replicate (p + 1 - w.ys.length) none
      have eo : opn w.ys i = some (p, mkX l' p) := by
        unfold opn
        rw [hpl, if_neg (Int.not_lt.mpr h0), Int.toNat_natCast]
        by_cases h2 : p < w.ys.length
        · have : l' = w.ys := by show _ ++ List.replicate (p + 1 - _) _ = _; rw [Nat.sub_eq_zero_of_le h2]; exact List.append_nil _
          rw [if_pos h2, this]
        · rw [if_neg h2, if_pos (by lia), ext_ge (Nat.le_succ_of_le (Nat.not_lt.mp h2)) (by lia)]
      have hll : l'.length = w.ys.length + (p + 1 - w.ys.length) := by show (_ ++ _ : List _).length = _; rw [List.length_append, List.length_replicate]
      have fin : ∀ σ', Go F w σ (w.ysTo l') σ' → exs (callF fi n) (.cons (.ite (.e (.u .isN (.b .idx (.loc 64) (.loc 39)))) (.cons (.setI (.loc 64) (.loc 39) (.list (.cons .none .nil))) .nil) .nil) (.cons (.ret (.loc 39)) .nil)) ρ (Ks.fn Q E) σ' := fun σ' G => by
        obtain ⟨cs', hC', A'⟩ := G.ok.C
        have el' : cs'.length = l'.length := A'.length
        have hlt : p < l'.length := hll ▸ grown _ _
        have hle : l'.length ≤ 112 := hll ▸ grown_le (h1.imp Int.ofNat_lt.mp Int.ofNat_lt.mp) hl
        have hb' : cs'.length ≤ lim := lim_of (el' ▸ hle) rfl
        have hpl' := place_nat (N := cs'.length) (p := p) (el' ▸ hlt)
        obtain ⟨v, hv, R⟩ := A'.get (List.getElem?_eq_getElem hlt)
        refine ⟨_, r64, _, r39, _, _, _, p, v, rfl, rfl, hC', hb', hpl', hv, ?_⟩
        generalize ho : l'[p] = o at R
        have ho' : l'[p]? = some o := by rw [List.getElem?_eq_getElem hlt, ho]
        cases R with
        | none =>
          have em : mkX l' p = l'.set p (some .none) := by unfold mkX; rw [ho']
          refine isN_t ⟨_, rfl, if_t rfl ⟨Nat.le_of_ble_eq_true rfl, fun c hc => ?_⟩⟩
          have G₂ := G.ok.new hc (.list [.none])
          obtain ⟨cs₂, hC₂, A₂⟩ := G₂.ok.C
          have B := G.ok.newAt hc (show imm (.list [.none]) = true from rfl)
          have e2 : cs₂.length = l'.length := A₂.length
          have G₃ := G₂.ok.setCells (A₂.set (.some B .none) p)
          exact ⟨_, r64, _, r39, _, p, cs₂, p, rfl, rfl, hC₂, lim_of (e2 ▸ hle) rfl, place_nat (e2 ▸ hlt), _, r39, q p _ _ eo (em ▸ G.trans (G₂.trans G₃))⟩
        | some h t =>
          have em : mkX l' p = l' := by unfold mkX; rw [ho']
          exact isN_f vN ⟨_, rfl, if_f rfl ⟨_, r39, q p _ _ eo (em.symm ▸ G)⟩⟩
      exact ⟨p + 1 - w.ys.length + 1, by
        by_cases h2 : w.ys.length ≤ p + 1
        · exact grow_loop O r64 r39 (by lia) _ w.ys σ (Nat.add_sub_of_le h2) (.refl O) fin
        · have e0 : p + 1 - w.ys.length = 0 := Nat.sub_eq_zero_of_le (Nat.le_of_lt (Nat.lt_of_not_le h2))
          rw [e0]
          exact ⟨_, r64, _, _, rfl, hC, hb, _, r39, _, _, rfl, rfl, _, rfl, fi_f (decide_eq_false (by lia)) (fin σ (by show Go F w σ (w.ysTo (_ ++ List.replicate (p + 1 - _) _)) σ; rw [e0, List.replicate_zero, List.append_nil]; exact .refl O))⟩⟩
    refine ⟨_, r39, _, _, rfl, rfl, _, rfl, fun c => if_t rfl (e ?_), fun c => ⟨_, r39, _, _, rfl, rfl, _, rfl, fun c₂ => if_f rfl (if_f rfl (rest₂ ?_ ?_)), fun c₂ => ⟨_, r39, _, r64, _, _, rfl, hC, hb, _, _, rfl, rfl, _, rfl, fun c₃ => if_f rfl (if_f rfl (rest₂ ?_ ?_)), fun c₃ => if_t rfl (if_t rfl (e ?_))⟩⟩⟩
    · have c : p₀ < 0 := of_decide_eq_true c
      unfold opn
      rw [if_pos (plc_lt hp c)]
    · exact Int.not_lt.mp (of_decide_eq_false c)
    · exact .inl (Int.not_le.mp (of_decide_eq_false c₂))
    · exact Int.not_lt.mp (of_decide_eq_false c)
    · exact .inr (el ▸ Int.not_le.mp (of_decide_eq_false c₃))
    · have c : ¬ p₀ < 0 := of_decide_eq_false c
      have c₂ : 12 ≤ p₀ := of_decide_eq_true c₂
      have c₃ : (cs.length : Int) ≤ p₀ := of_decide_eq_true c₃
      have hpl : plc w.ys.length i = p₀ := plc_of hp (Int.not_lt.mp c)
      unfold opn
      rw [hpl, if_neg c, if_neg (by lia), if_neg (by lia)]
  refine ⟨_, _, rfl, rfl, _, rfl, _, _, rfl, rfl, _, rfl, fun c => ?_, fun c => ?_⟩
  · have c : i < 0 := of_decide_eq_true c
    exact ⟨_, rfl, _, rfl, _, _, rfl, hC, hb, _, _, rfl, rfl, trivial, rest _ _ rfl rfl (by rw [if_pos c, ← el]; rfl)⟩
  · have c : ¬ i < 0 := of_decide_eq_false c
    exact ⟨_, rfl, rest _ _ rfl rfl (by rw [if_neg c])⟩
end
end
section
set_option tactic.hygienic false
open PySem PySem.W
section
variable {F : Fx} {w w' w'' : Wd} {σ σ' σ'' : AH} {Q : AV → AH → Prop} {E : EX} {n : Nat}
theorem All2.take {α β : Type} {R : α → β → Prop} {as : List α} {bs : List β} (h : All2 R as bs) : ∀ p, All2 R (as.take p) (bs.take p) := by
  induction h with
  | nil => intro p; rw [List.take_nil, List.take_nil]; exact .nil
  | cons x y ih => intro p; cases p with
    | zero => exact .nil
    | succ p => exact .cons x (ih p)
theorem All2.drop {α β : Type} {R : α → β → Prop} {as : List α} {bs : List β} (h : All2 R as bs) : ∀ p, All2 R (as.drop p) (bs.drop p) := by
  induction h with
  | nil => intro p; rw [List.drop_nil, List.drop_nil]; exact .nil
  | cons x y ih => intro p; cases p with
    | zero => exact .cons x y
    | succ p => exact ih p
theorem All2.snoc {α β : Type} {R : α → β → Prop} {a : α} {as : List α} {bs : List β} (h : All2 R (as ++ [a]) bs) : ∃ b bs', bs = bs' ++ [b] ∧ All2 R as bs' ∧ R a b := by
  induction as generalizing bs with
  | nil =>
    cases h with
    | cons r k => cases k; exact ⟨_, [], rfl, .nil, r⟩
  | cons x as ih =>
    cases h with
    | cons r k =>
      obtain ⟨b, bs', rfl, h1, h2⟩ := ih k
      exact ⟨b, _ :: bs', rfl, .cons r h1, h2⟩
theorem while_trimC (O : Ok F w σ) {ρ : Loc} {k : Ks} (r64 : ρ 64 = some (.ref F.C)) : ∀ (N : Nat) (ys : List (Option D)) (σ₁ : AH), ys.length < N → N ≤ 1000 → Go F w σ (w.ysTo ys) σ₁ → (∀ σ', Go F w σ (w.ysTo (trim ys)) σ' → k.next ρ σ') →
    whileN (fun ρ Q σ => tst (callF fi n) (.ands (.cons (.e (.u .neNil (.loc 64))) (.cons (.e (.u .isN (.b .idx (.loc 64) (.u .neg (.int 1))))) .nil))) ρ Q (fun Ω => False) σ)
      (fun ρ k σ => exs (callF fi n) (.cons (.expr (.pop (.loc 64))) .nil) ρ k σ) k N ρ σ₁
  | 0, ys, σ₁, h, _, _, _ => by lia
  | N + 1, ys, σ₁, h, hN, G, q => by
    obtain ⟨cs, hC, A⟩ := G.ok.C
    have el : cs.length = ys.length := A.length
    rcases List.eq_nil_or_concat cs with e | ⟨r, v, e⟩
    · subst e
      cases ys with
      | cons => cases A
      | nil => exact ⟨_, r64, _, _, rfl, hC, _, rfl, fi_f rfl (fi_f rfl (q _ G))⟩
    · rw [List.concat_eq_append] at e
      subst e
      obtain ⟨o, ys', rfl, A', R⟩ := All2.snoc (bs := ys) A
      have er : r.length = ys'.length := A'.length
      rw [List.length_append] at h
      have h : ys'.length + 1 < N + 1 := h
      refine ⟨_, r64, _, _, rfl, hC, _, rfl, fi_t (by cases r <;> rfl) ⟨_, r64, _, rfl, _, _, _, r.length, v, rfl, rfl, hC, by rw [List.length_append]; show r.length + 1 ≤ 10000; lia, ?_, by rw [List.getElem?_append_right (Nat.le_refl _), Nat.sub_self]; rfl, ?_⟩⟩
      · unfold place
        rw [List.length_append, if_neg (by decide), if_pos (by show (0 : Int) ≤ -1 + ((r.length + 1 : Nat) : Int); lia)]
        congr 1
        show (-1 + ((r.length + 1 : Nat) : Int)).toNat = _
        lia
      · cases R with
        | some h' t =>
          rw [trim_some] at q
          exact isN_f vN ⟨_, rfl, fi_f rfl (fi_f rfl (q _ G))⟩
        | none =>
          rw [trim_none] at q
          have G₂ := G.ok.setCells A'
          exact isN_t ⟨_, rfl, fi_t rfl (fi_t rfl ⟨_, r64, _, _, _, rfl, hC, by first | exact lim_of (by assumption) (by rfl) | (show _ ≤ 10000; lia), while_trimC O r64 N ys' _ (by lia) (by lia) (G.trans G₂) q⟩)⟩
theorem del_none {l : List (Option D)} {i : Int} (e : atI l i = none) : del l i = (.none, l) := by unfold del; rw [e]
theorem del_some {l : List (Option D)} {i : Int} {d : D} (e : atI l i = some d) : del l i = (d, if (plc l.length i).toNat + 1 = l.length then trim (l.set (plc l.length i).toNat none) else l.set (plc l.length i).toNat none) := by unfold del; rw [e]
theorem in_of_at {l : List (Option D)} {i : Int} {d : D} (e : atI l i = some d) : -(l.length : Int) ≤ i ∧ i < l.length := Classical.byContradiction fun h => by rw [atI_out h] at e; cases e
theorem plc_end {n : Nat} {i : Int} {p : Nat} (h : 0 ≤ plc n i) (hn : i < n) (ep : (plc n i).toNat = p) : ((-1 : Int) == i || ((n : Int) - 1 == i || false)) = decide (p + 1 = n) := by
  have e := plc_val h
  rw [← Int.toNat_of_nonneg h, ep] at e
  rw [Bool.eq_iff_iff, Bool.or_false, Bool.or_eq_true, beq_iff_eq, beq_iff_eq, decide_eq_true_eq]
  by_cases c : i < 0
  · rw [if_pos c] at e; lia
  · rw [if_neg c] at e; lia
theorem deleted_ok (O : Ok F w σ) (hl : w.ys.length ≤ 100) {i : Int} (q : ∀ σ' u, Go F w σ (w.ysTo (del w.ys i).2) σ' → Tl F (w.ysTo (del w.ys i).2) σ' u (del w.ys i).1 → Q u σ') : callF fi (n+2) 59 [.ref F.C, .int i] Q E σ := by
  refine ⟨_, _, rfl, rfl, _, rfl, _, rfl, evs_nil <| at_ok O (by lia) fun v R => ⟨_, rfl, ?_⟩⟩
  generalize ea : atI w.ys i = o at R
  cases R with
  | none =>
    rw [del_none ea] at q
    exact isNN_f ⟨_, rfl, if_f rfl ⟨_, rfl, evs_nil <| of_ok (w := w) (F := F) .none fun u T => q σ u (.refl O) T⟩⟩
  | @some c u d h t =>
    rw [del_some ea] at q
    obtain ⟨i1, i2⟩ := in_of_at ea
    obtain ⟨cs, hC, A⟩ := O.C
    have el : cs.length = w.ys.length := A.length
    obtain ⟨p1, p2, p3⟩ := plc_place2 i1 i2
    generalize ep : (plc w.ys.length i).toNat = p at q p3
    have G := O.setCells (A.set (.none (F := F) (w := w) (σ := σ)) p)
    have e2 : (cs.set p AV.none).length = w.ys.length := by rw [List.length_set, el]
    refine isNN_t vN ⟨_, rfl, if_t rfl ⟨_, rfl, _, rfl, F.C, i, cs, p, rfl, rfl, hC, lim_of (el ▸ hl) rfl, el ▸ p3, _, rfl, _, rfl, _, rfl, _, _, rfl, put_eq, lim_of (e2 ▸ hl) rfl, _, _, rfl, rfl, trivial, Nat.le_of_ble_eq_true rfl, fun a ha => ?_⟩⟩
    have G₂ := G.trans (G.ok.new ha (.tup [.int (-1), .int (AOp.sub.on ((cs.set p AV.none).length : Int) 1)]))
    have fin : ∀ {σ' : AH} {ys' : List (Option D)}, Go F w σ (w.ysTo ys') σ' → (∀ σ' u, Go F w σ (w.ysTo ys') σ' → Tl F (w.ysTo ys') σ' u d → Q u σ') → callF fi (n+1) 56 [.ref c] Q E σ' := fun G q => of_ok (o := some d) (.some (G.st.at_ _ _ h) (t.st G.st)) fun u T => q _ u G T
    refine ⟨a, .int i, [.int (-1), .int (AOp.sub.on ((cs.set p AV.none).length : Int) 1)], rfl, .int i, rfl, rfl, by show max 0 (max 0 0) ≤ 8; decide, .inr (.tup put_eq (.cons (.int _) (.cons (.int _) .nil))), _, rfl, fun c => ?_, fun c => ?_⟩
    · have c : ((-1 : Int) == i || (((cs.set p AV.none).length : Int) - 1 == i || false)) = true := c
      have hp : p + 1 = w.ys.length := of_decide_eq_true ((plc_end p1 i2 ep).symm.trans (e2 ▸ c))
      rw [if_pos hp] at q
      exact ⟨w.ys.length + 1, while_trimC O rfl _ (w.ys.set p none) _ (by rw [List.length_set]; lia) (by lia) G₂ fun σ' G' => ⟨_, rfl, evs_nil <| fin G' q⟩⟩
    · have c : ((-1 : Int) == i || (((cs.set p AV.none).length : Int) - 1 == i || false)) = false := c
      have hp : p + 1 ≠ w.ys.length := of_decide_eq_false ((plc_end p1 i2 ep).symm.trans (e2 ▸ c))
      rw [if_neg hp] at q
      exact ⟨_, rfl, evs_nil <| fin G₂ q⟩
theorem spliced_ok (O : Ok F w σ) (hl : w.ys.length ≤ 1000) {f : Nat} {us : List AV} {ds : List D} (L : At_ F w σ f (.list us)) (V : All2 (Cl F w σ) us (ds.map some)) (hd : ds.length ≤ 100) {off : Int} {len : Option Int} (e : spB w.ys.length off = none → Q .none σ)
    (q : ∀ σ' vs a (b c : Nat), spB w.ys.length off = some (b : Int) → spC w.ys.length b len = c → b + c ≤ w.ys.length → Go F w σ (w.ysTo (w.ys.take b ++ ds.map some ++ w.ys.drop (b + c))) σ' → At_ F (w.ysTo (w.ys.take b ++ ds.map some ++ w.ys.drop (b + c))) σ' a (.list vs) →
      All2 (Tl F (w.ysTo (w.ys.take b ++ ds.map some ++ w.ys.drop (b + c))) σ') vs (((w.ys.drop b).take c).map od) → Q (.ref a) σ') : callF fi (n+2) 60 [.ref F.C, .int off, oI len, .ref f] Q E σ := by
  obtain ⟨cs, hC, A⟩ := O.C
  have el : cs.length = w.ys.length := A.length
  have hb : cs.length ≤ lim := lim_of (A.length ▸ hl) rfl
  -- where it ends
  have rest : ∀ (b c : Nat) (ρ : Loc), spB w.ys.length off = some (b : Int) → spC w.ys.length b len = c → b + c ≤ w.ys.length → ρ 64 = some (.ref F.C) → ρ 34 = some (.int b) → ρ 65 = some (.int ((b + c : Nat) : Int)) → ρ 27 = some (.ref f) →
      exs (callF fi (n+1)) (.cons (.assign 37 (.comp (.call 56 (.cons (.loc 63) .nil)) 63 [] (.slice (.loc 64) (.loc 34) (.loc 65)))) (.cons (.setS (.loc 64) (.loc 34) (.loc 65) (.loc 27)) (.cons (.ret (.loc 37)) .nil))) ρ (Ks.fn Q E) σ := by
    intro b c ρ h1 h2 h3 r64 r34 r65 r27
    obtain ⟨_, _, s3⟩ := split3 h3
    refine ⟨_, r64, _, r34, _, r65, F.C, cs, b, b + c, rfl, hC, hb, loB_nat (by lia), hiB_nat (by lia), fun t ht => ?_⟩
    have Am : All2 (Cl F w σ) (cut cs b (b + c)) ((w.ys.drop b).take c) := by
      unfold cut
      rw [Nat.add_sub_cancel_left]; exact (A.drop b).take c
    have lm := Am.length.trans s3
    have G₁ := O.new ht (.list (cut cs b (b + c)))
    have B₁ := O.newAt ht (show imm (.list (cut cs b (b + c))) = true from rfl)
    refine ⟨t, _, rfl, put_eq, by lia, comp_go (R := Cl F w σ) (ds := (w.ys.drop b).take c) (f := od) (T := fun σ => Tl F w σ) G₁.ok Am (fun σ₁ G => (G.st.at_ _ _ B₁).at_) ?_ (fun Ω Ω Ω Ω G h => h.st G.st) fun σ₁ vs a G A' ha => ?_⟩
    · intro σ₁ v d G V Q' k
      exact ⟨_, rfl, evs_nil <| of_ok (V.st (G₁.trans G).st) fun u T => k _ _ (.refl G.ok) T⟩
    · have G₂ := G₁.trans (G.trans (G.ok.new ha (.list vs)))
      have B₂ := G.ok.newAt ha (show imm (.list vs) = true from rfl)
      obtain ⟨cs₂, hC₂, A₂⟩ := G₂.ok.C
      have e₂ : cs₂.length = w.ys.length := A₂.length
      have L₂ := G₂.st.at_ _ _ L
      have hV := V.length
      rw [List.length_map] at hV
      have hA : All2 (Cl F w (σ₁.put a (.list vs))) (setCut cs₂ us b (b + c)) (w.ys.take b ++ ds.map some ++ w.ys.drop (b + c)) := by
        unfold setCut
        rw [show Nat.max b (b + c) = b + c from Nat.max_eq_right (Nat.le_add_right _ _)]
        exact ((A₂.take b).append (V.mono fun Ω Ω h => h.st G₂.st)).append (A₂.drop (b + c))
      have G₃ := G₂.ok.setCells hA
      exact ⟨_, r27, _, r64, _, r34, _, r65, F.C, f, cs₂, us, b, b + c, rfl, rfl, fun e => L₂.ne (e ▸ .head _), hC₂, L₂.at_, by first | exact lim_of (by assumption) (by rfl) | (show _ ≤ 10000; lia), loB_nat (by lia), hiB_nat (by lia), _, rfl, q _ vs a b c h1 h2 h3 (G₂.trans G₃) (G₃.st.at_ _ _ B₂) (A'.mono fun Ω Ω h => (h.st (G.ok.new ha (.list vs)).st).st G₃.st)⟩
  have rest₂ : ∀ (b : Nat) (ρ : Loc), spB w.ys.length off = some (b : Int) → ρ 64 = some (.ref F.C) → ρ 34 = some (.int b) → ρ 35 = some (oI len) → ρ 27 = some (.ref f) →
      exs (callF fi (n+1)) (.cons (.assign 65 (.u .len (.loc 64))) (.cons (.ite (.e (.u .isNN (.loc 35))) (.cons (.assign 65 (.ite (.e (.b (.cmp .lt) (.loc 35) (.int 0))) (.b .max (.loc 34) (.b (.ar .add) (.loc 65) (.loc 35))) (.b .min (.loc 65) (.b (.ar .add) (.loc 34) (.loc 35))))) .nil) .nil) (.cons (.assign 37 (.comp (.call 56 (.cons (.loc 63) .nil)) 63 [] (.slice (.loc 64) (.loc 34) (.loc 65)))) (.cons (.setS (.loc 64) (.loc 34) (.loc 65) (.loc 27)) (.cons (.ret (.loc 37)) .nil))))) ρ (Ks.fn Q E) σ := by
    intro b ρ h1 r64 r34 r35 r27
    have hbN := (spB_le h1).2
    have sc : ∃ c : Nat, spC w.ys.length b len = c ∧ b + c ≤ w.ys.length := by
      have : 0 ≤ spC w.ys.length b len ∧ spC w.ys.length b len ≤ w.ys.length - b := by
        cases len with
        | none => show 0 ≤ (w.ys.length : Int) - b ∧ (w.ys.length : Int) - b ≤ _; lia
        | some l => unfold spC; dsimp only; split <;> split <;> lia
      obtain ⟨c, hc⟩ := Int.eq_ofNat_of_zero_le this.1
      exact ⟨c, hc, by lia⟩
    obtain ⟨c, h2, h3⟩ := sc
    refine ⟨_, r64, _, _, rfl, hC, hb, _, r35, ?_⟩
    rw [el]
    cases len with
    | none =>
      have ec : (w.ys.length : Int) = ((b + c : Nat) : Int) := by have : (w.ys.length : Int) - b = c := h2; lia
      rw [ec]
      exact isNN_f ⟨_, rfl, if_f rfl (rest b c _ h1 h2 h3 r64 r34 rfl r27)⟩
    | some l =>
      unfold spC at h2
      dsimp only at h2
      refine isNN_t nofun ⟨_, rfl, if_t rfl ⟨_, r35, _, _, rfl, rfl, _, rfl, fun k => ?_, fun k => ?_⟩⟩
      · have k : l < 0 := of_decide_eq_true k
        refine ⟨_, r34, _, rfl, _, r35, _, _, rfl, rfl, trivial, _, _, rfl, rfl, ?_⟩
        rw [if_pos k] at h2
        have ev : (if (b : Int) < AOp.add.on (w.ys.length : Int) l then AOp.add.on (w.ys.length : Int) l else (b : Int)) = ((b + c : Nat) : Int) := by
          show (if (b : Int) < (w.ys.length : Int) + l then (w.ys.length : Int) + l else (b : Int)) = _
          split at h2 <;> split <;> lia
        rw [ev]
        exact rest b c _ h1 (by unfold spC; dsimp only; rw [if_pos k]; exact h2) h3 r64 r34 rfl r27
      · have k : ¬ l < 0 := of_decide_eq_false k
        refine ⟨_, rfl, _, r34, _, r35, _, _, rfl, rfl, trivial, _, _, rfl, rfl, ?_⟩
        rw [if_neg k] at h2
        have ev : (if AOp.add.on (b : Int) l < (w.ys.length : Int) then AOp.add.on (b : Int) l else (w.ys.length : Int)) = ((b + c : Nat) : Int) := by
          show (if (b : Int) + l < (w.ys.length : Int) then (b : Int) + l else (w.ys.length : Int)) = _
          split at h2 <;> split <;> lia
        rw [ev]
        exact rest b c _ h1 (by unfold spC; dsimp only; rw [if_neg k]; exact h2) h3 r64 r34 rfl r27
  refine ⟨_, _, rfl, rfl, _, rfl, _, _, rfl, rfl, _, rfl, fun c => ?_, fun c => ?_⟩
  · have c : off < 0 := of_decide_eq_true c
    refine ⟨_, rfl, _, rfl, _, _, rfl, hC, hb, _, _, rfl, rfl, trivial, _, rfl, _, _, rfl, rfl, _, rfl, fun c₂ => ?_, fun c₂ => ?_⟩
    · have c₂ : off + (cs.length : Int) < 0 := of_decide_eq_true c₂
      exact e (by unfold spB; rw [if_pos c, if_pos (by lia)])
    · have c₂ : ¬ off + (cs.length : Int) < 0 := of_decide_eq_false c₂
      obtain ⟨b, hbb⟩ := Int.eq_ofNat_of_zero_le (show 0 ≤ off + (cs.length : Int) by lia)
      have hk : AOp.add.on off (cs.length : Int) = (b : Int) := hbb
      rw [hk]
      exact rest₂ b _ (by unfold spB; rw [if_pos c, if_neg (by lia), if_neg (by lia)]; rw [show off + (w.ys.length : Int) = b by lia]) rfl rfl rfl rfl
  · have c : ¬ off < 0 := of_decide_eq_false c
    refine ⟨_, rfl, _, rfl, _, _, rfl, hC, hb, _, _, rfl, rfl, _, rfl, _, _, rfl, rfl, _, rfl, fun c₂ => ?_, fun c₂ => ?_⟩
    · have c₂ : (if (cs.length : Int) < off then (cs.length : Int) else off) < 0 := of_decide_eq_true c₂
      split at c₂ <;> lia
    · obtain ⟨b, hbb⟩ := Int.eq_ofNat_of_zero_le (show 0 ≤ (if (cs.length : Int) < off then (cs.length : Int) else off) by split <;> lia)
      rw [hbb]
      exact rest₂ b _ (by unfold spB; rw [if_neg c, ← el, hbb]) rfl rfl rfl rfl
end
end
section
set_option tactic.hygienic false
open PySem PySem.W
noncomputable def rd : D → PyData
  | .none => .none
  | .int i => .int i
  | .str s => .str s
  | .rf k => .tuple [.str (.ofString "ref"), .int (num k)]
noncomputable def ho (l : List (Option D)) : Nat := l.countP Option.isNone
noncomputable def pot (w : Wd) : Int := w.last + ((ho (xv w) - 6 : Nat) : Int)
structure Deed (F : Fx) (w : Wd) (σ : AH) (w' : Wd) (σ' : AH) (k : Int) : Prop where
  go : Go F w σ w' σ'
  nice : Nice w'
  eq : xv w' = w'.ys
  pot : pot w' ≤ Mine.pot w + k
  len : w'.xs.length ≤ w.xs.length + 3 ∨ w'.xs.length ≤ 12
section
variable {F : Fx} {w w' w'' : Wd} {σ σ' σ'' : AH} {Q : AV → AH → Prop} {E : EX} {n : Nat}
theorem evs_n12 {Φ : Nat → List AV → PT} {ρ : Loc} {Q : List AV → AH → Prop} {E : EX} (h : Q [.int 12] σ) : evs Φ (.cons (.int 12) .nil) ρ Q E σ := h
theorem som_set2 {l : List (Option D)} {p : Nat} {d d₀ : D} (h : l[p]? = some (some d₀)) : som (l.set p (some d)) = som l := by
  have h1 := (set_fm h).length_eq
  have h2 := (fm_set (s := d) (l := l.set p none) (p := p) (by rw [List.getElem?_set_self (List.getElem?_eq_some_iff.mp h).1])).length_eq
  rw [List.set_set] at h2
  exact h2.trans h1.symm
theorem ho_som : ∀ l : List (Option D), ho l + som l = l.length
  | [] => rfl
  | none :: r => by have := ho_som r; show (List.countP _ (none :: r)) + som r = _; rw [List.countP_cons]; show (ho r + 1) + som r = r.length + 1; lia
  | some d :: r => by have := ho_som r; show (List.countP _ (some d :: r)) + (som r + 1) = _; rw [List.countP_cons]; show (ho r + 0) + (som r + 1) = r.length + 1; lia
theorem pot_of {X : List (Option D)} {m : Nat} (P : Op F w σ w' σ' X m) : pot w' = w.last + (m : Nat) + ((ho X - 6 : Nat) : Int) := by unfold pot; rw [P.xv, P.last]
theorem Tl.rd {u d} (T : Tl F w σ u d) : RdV σ u (rd d) ∧ (Mine.rd d).canLay0 = true ∧ (Mine.rd d).depth ≤ 1 := by
  cases T with
  | none => exact ⟨.none, rfl, Nat.zero_le _⟩
  | int i => exact ⟨.int i, rfl, Nat.zero_le _⟩
  | str s h => exact ⟨.str s, h, Nat.zero_le _⟩
  | @ref r k h => exact ⟨.tup h.at_ (.cons (.str _) (.cons (.int _) .nil)), by show (PyData.strOk _ && (true && true)) = true; decide +kernel, by show max 0 (max 0 0) + 1 ≤ 1; decide⟩
theorem tls_rd {us ds} (A : All2 (Tl F w σ) us ds) : RdA σ us (ds.map rd) ∧ PyData.canLayAll0 (ds.map rd) = true ∧ PyData.depthAll (ds.map rd) ≤ 1 := by
  induction A with
  | nil => exact ⟨.nil, rfl, Nat.zero_le _⟩
  | cons a _ ih =>
    obtain ⟨a1, a2, a3⟩ := a.rd
    exact ⟨.cons a1 ih.1, by show (_ && _) = true; rw [a2, ih.2.1]; rfl, Nat.max_le.mpr ⟨a3, ih.2.2⟩⟩
theorem shaped1 {d : PyData} (h : d.canLay0 = true) (k : d.depth ≤ 1) : SeqAt.shaped d = true := Bool.and_eq_true_iff.mpr ⟨h, decide_eq_true (Nat.le_trans k (by decide))⟩
theorem shapedL {ds : List PyData} (h : PyData.canLayAll0 ds = true) (k : PyData.depthAll ds ≤ 1) : SeqAt.shaped (.list ds) = true := Bool.and_eq_true_iff.mpr ⟨h, decide_eq_true (Nat.le_trans (Nat.succ_le_succ k) (by decide))⟩
theorem eqd_told {u v d} (T : Tl F w σ u d) (S : Tl F w' σ v d) (q : Q (.bool true) σ) : sem2 .eqd u v Q σ := by
  obtain ⟨t1, t2, t3⟩ := T.rd
  exact ⟨_, _, t1, S.rd.1, shaped1 t2 t3, shaped1 t2 t3, by rw [SeqAt.eqv_refl _ t2]; exact q⟩
theorem ned_told {u v d} (T : Tl F w σ u d) (S : Tl F w' σ v d) (q : Q (.bool false) σ) : sem2 .ned u v Q σ := by
  obtain ⟨t1, t2, t3⟩ := T.rd
  exact ⟨_, _, t1, S.rd.1, shaped1 t2 t3, shaped1 t2 t3, by rw [SeqAt.eqv_refl _ t2]; exact q⟩
theorem eqd_lists {a b us vs ds} (ha : σ a = some (.list us)) (hb : σ b = some (.list vs)) (T : All2 (Tl F w σ) us ds) (S : All2 (Tl F w' σ) vs ds) (q : Q (.bool true) σ) : sem2 .eqd (.ref a) (.ref b) Q σ := by
  obtain ⟨t1, t2, t3⟩ := tls_rd T
  exact ⟨_, _, .list ha t1, .list hb (tls_rd S).1, shapedL t2 t3, shapedL t2 t3, by rw [SeqAt.eqv_refl (.list _) t2]; exact q⟩
theorem ned_lists {a b us vs ds} (ha : σ a = some (.list us)) (hb : σ b = some (.list vs)) (T : All2 (Tl F w σ) us ds) (S : All2 (Tl F w' σ) vs ds) (q : Q (.bool false) σ) : sem2 .ned (.ref a) (.ref b) Q σ := by
  obtain ⟨t1, t2, t3⟩ := tls_rd T
  exact ⟨_, _, .list ha t1, .list hb (tls_rd S).1, shapedL t2 t3, shapedL t2 t3, by rw [SeqAt.eqv_refl (.list _) t2]; exact q⟩
theorem Go.ysOp {X : List (Option D)} {σ₁ : AH} (G : Go F w σ (w.ysTo X) σ₁) {m : Nat} (P : Op F (w.ysTo X) σ₁ w' σ' X m) {k : Int} (hp : (m : Int) + ((ho X - 6 : Nat) : Int) ≤ ((ho (Mine.xv w) - 6 : Nat) : Int) + k) (hl : X.length ≤ w.xs.length + 3 ∨ X.length ≤ 12) : Deed F w σ w' σ' k :=
  ⟨G.trans P.go, P.nice, P.xv.trans P.ys.symm, by have := pot_of P; unfold Mine.pot at this ⊢; rw [this]; show w.last + _ + _ ≤ _; lia, by rw [P.len]; exact hl⟩
theorem nice_ys {X : List (Option D)} (N : Nice w) : Nice (w.ysTo X) := ⟨N.full, N.zp, N.pd, N.h3⟩
theorem tiny_ys {X : List (Option D)} (N : Tiny w) : Tiny (w.ysTo X) := ⟨N.xs, N.last⟩
theorem opn_len {l : List (Option D)} {i : Int} {p : Nat} {X : List (Option D)} (h : opn l i = some (p, X)) : p < X.length ∧ (X.length = l.length ∨ X.length ≤ 12) ∧ (X[p]?.join).isSome = true := by
  have mk : ∀ {l : List (Option D)} {p : Nat}, p < l.length → ((mkX l p)[p]?.join).isSome = true := fun {l p} hp => by
    unfold mkX
    rw [List.getElem?_eq_getElem hp]
    cases e : l[p] with
    | none => dsimp only; rw [List.getElem?_set_self hp]; rfl
    | some d => dsimp only; rw [List.getElem?_eq_getElem hp, e]; rfl
  unfold opn at h
  split at h
  · cases h
  · split at h
    · rename_i h2
      injection h with h; injection h with h3 h4
      subst h3 h4
      rw [mk_len]; exact ⟨h2, .inl rfl, mk h2⟩
    · split at h
      · injection h with h; injection h with h3 h4
        subst h3 h4
        have : (ext l ((plc l.length i).toNat + 1)).length = (plc l.length i).toNat + 1 := by rw [ext_ge (by lia) (by lia), List.length_append, List.length_replicate]; exact Nat.add_sub_of_le (by lia)
        rw [mk_len, this]; exact ⟨by lia, .inr (by lia), mk (by lia)⟩
      · cases h
theorem pot_le {m x y k : Nat} (h : x ≤ y) (hm : m ≤ k) : (m : Int) + ((x - 6 : Nat) : Int) ≤ ((y - 6 : Nat) : Int) + (k : Int) := by
  rw [Int.add_comm]
  exact Int.add_le_add (Int.ofNat_le.mpr (Nat.sub_le_sub_right h 6)) (Int.ofNat_le.mpr hm)
theorem pot_lt {m x y k : Nat} (h : m + x ≤ k) : (m : Int) + ((x : Nat) : Int) ≤ ((y : Nat) : Int) + (k : Int) :=
  Int.le_trans (Int.ofNat_le.mpr h) (Int.le_add_of_nonneg_left (Int.natCast_nonneg y))
theorem pot_d {x y k : Nat} (h : x ≤ y + k) : ((0 : Nat) : Int) + ((x - 6 : Nat) : Int) ≤ ((y - 6 : Nat) : Int) + (k : Int) := by
  rw [Int.natCast_zero, Int.zero_add]
  exact Int.ofNat_le.mpr (Nat.sub_le_iff_le_add.mpr (Nat.le_trans h (by rw [Nat.add_right_comm]; exact Nat.add_le_add_right (Nat.sub_le_iff_le_add.mp (Nat.le_refl _)) _)))
theorem pot_w {L a b c k : Int} (h : a + b ≤ c + k) : L + a + b ≤ L + c + k := by
  rw [Int.add_assoc, Int.add_assoc]
  exact Int.add_le_add_left h L
theorem som_pot {X l : List (Option D)} {m : Nat} (h : som X = som l + m) (h3 : m ≤ 6) (hl : X.length = l.length ∨ X.length ≤ 12) : (m : Int) + ((ho X - 6 : Nat) : Int) ≤ ((ho l - 6 : Nat) : Int) + 6 := by
  have h1 := ho_som X
  rcases hl with hl | hl
  · have h2 := ho_som l
    exact pot_le (k := 6) (Nat.le_of_add_le_add_right (show ho X + som X ≤ ho l + som X by rw [h1, hl, ← h2, h]; exact Nat.add_le_add_left (Nat.le_add_right _ _) _)) h3
  · have h4 : m ≤ som X := h ▸ Nat.le_add_left _ _
    exact pot_lt (k := 6) (by
      rcases Nat.le_total (ho X) 6 with c | c
      · rw [Nat.sub_eq_zero_of_le c]; exact h3
      · rw [← Nat.add_sub_assoc c]
        exact Nat.sub_le_of_le_add (Nat.le_trans (Nat.add_le_add_right h4 _) (Nat.le_trans (Nat.le_of_eq ((Nat.add_comm ..).trans h1)) hl)))
theorem element_deed (O : Ok F w σ) (N : Nice w) (T : Tiny w) (he : xv w = w.ys) {i : Int} {v d} (V : Vl F w σ v d) (q : ∀ w' σ', Deed F w σ w' σ' 6 → Q (.bool true) σ') : callF fi (n+7) 62 [.ref F.ct, .ref F.arr, .ref F.C, .int i, v] Q E σ := by
  have hx := T.xs
  have hl := T.last
  have hxl := xv_len (w := w)
  refine ⟨_, _, rfl, rfl, _, rfl, _, rfl, evs_nil <| opened_ok O (by rw [← he, hxl]; lia) (fun e => ?_) fun p X σ₁ e G => ?_⟩
  · rw [← he] at e
    refine ⟨_, rfl, _, rfl, _, rfl, evs_n12 <| element_scalar_ok O N T (fun Ω => ⟨_, rfl, isN_t (q w σ ⟨.refl O, N, he, by lia, .inl (by lia)⟩)⟩) fun w' σ' p X m s h => by rw [h] at e; cases e⟩
  · have e' := e
    rw [← he] at e'
    have O₁ := G.ok
    refine ⟨_, rfl, _, rfl, _, rfl, evs_n12 <| element_scalar_ok (i := i) O₁ (nice_ys N) (tiny_ys T) (fun h => by have h : opn (xv w) i = none := h; rw [h] at e'; cases e') fun w₂ σ₂ p₂ X₂ m s h hm h1 hX P hs mono => ?_⟩
    have h : opn (xv w) i = some (p₂, X₂) := h
    rw [e'] at h
    injection h with h; injection h with h3 h4
    subst h3 h4
    have hX : X.length = (xv w).length ∨ X.length ≤ 12 := hX
    have hm : som X = som (xv w) + m := hm
    obtain ⟨wk, ha⟩ := P.go.ok.arr
    have hS := P.nice.mem (List.mem_of_getElem? hs)
    obtain ⟨wk', v', hsc, _, _⟩ := (P.go.ok.live s hS).ex
    have hlen := P.len
    have S₂ : Small w₂ := ⟨by lia, by have := P.last; show w₂.last ≤ 1000; have : w₂.last = w.last + (m : Nat) := this; lia⟩
    refine ⟨_, rfl, isN_f nofun ⟨_, rfl, if_f rfl ⟨_, rfl, _, _, _, _, rfl, hsc, rfl, _, rfl, _, _, _, _, rfl, ha, rfl, _, rfl, idx_I (o := some s) P.go.ok S₂ (Int.natCast_nonneg p) (by rw [Int.toNat_natCast]; exact hs) ⟨_, _, _, _, rfl, hsc, rfl, _, _, rfl, rfl, _, rfl, if_f (by show (!decide (s.n = s.n)) = false; rw [decide_eq_true rfl]; rfl) (if_f rfl ?_)⟩⟩⟩⟩
    obtain ⟨Pc, hct, _⟩ := P.go.ok.ct
    refine ⟨_, rfl, _, _, rfl, hct.at_, rfl, _, rfl, _, rfl, evs_nil <| store_ok P.go.ok P.nice hs ((V.st G.st).st P.go.st) fun w₃ σ₃ P₃ Ω => ?_⟩
    refine ⟨_, rfl, evs_nil <| told_ok P₃.go.ok (((V.st G.st).st P.go.st).st P₃.go.st) fun σ₄ u G₄ Tu => ⟨Nat.le_of_ble_eq_true rfl, fun c hc => ?_⟩⟩
    have G₅ := G₄.ok.new hc (.list [u])
    have B := G₄.ok.newAt hc (show imm (.list [u]) = true from rfl)
    obtain ⟨cs, hC, A⟩ := G₅.ok.C
    have eys : w₃.ys = X := P₃.ys.trans P.ys
    rw [eys] at A
    have el : cs.length = X.length := A.length
    obtain ⟨hp, _, hsome⟩ := opn_len e
    have G₆ := G₅.ok.setCells (A.set (.some B (Tu.st G₅.st)) p)
    refine ⟨_, rfl, _, rfl, F.C, p, cs, p, rfl, rfl, hC, by first | exact lim_of (by assumption) (by rfl) | (show _ ≤ 10000; lia), place_nat (by lia), q _ _ ⟨G.trans ((P.go.trans P₃.go).trans (G₄.trans (G₅.trans G₆))), nice_ys P₃.nice, by show xv w₃ = X.set p (some d); rw [P₃.xv, P.xv], ?_, ?_⟩⟩
    · have hsp := som_pot hm (by lia) hX
      show w₃.last + ((ho (xv w₃) - 6 : Nat) : Int) ≤ _
      have hho : ho ((X.set p (some d))) = ho X := by
        obtain ⟨d₀, h0⟩ := Option.isSome_iff_exists.mp hsome
        have a3 := som_set2 (d := d) (Option.join_eq_some_iff.mp h0)
        have a1 := (ho_som (X.set p (some d))).trans (List.length_set.trans (ho_som X).symm)
        rw [a3] at a1
        exact Nat.add_right_cancel a1
      rw [P₃.xv, P.xv, P₃.last, P.last, hho]
      show w.last + (m : Nat) + (0 : Int) + _ ≤ _
      rw [Int.add_zero]
      exact pot_w hsp
    · show w₃.xs.length ≤ _ ∨ _
      rw [P₃.len, List.length_set, P.xv]
      rcases hX with h | h
      · exact .inl (by lia)
      · exact .inr h
end
end
section
set_option tactic.hygienic false
open PySem PySem.W
section
variable {F : Fx} {w w' w'' : Wd} {σ σ' σ'' : AH} {Q : AV → AH → Prop} {E : EX} {n : Nat}
theorem ho_app {a b : List (Option D)} : ho (a ++ b) = ho a + ho b := List.countP_append ..
theorem ho_somes {ds : List D} : ho (ds.map some) = 0 := by
  induction ds with
  | nil => rfl
  | cons a r ih => exact (List.countP_cons ..).trans ih
theorem ho_rep {k : Nat} : ho (List.replicate k none) = k := by
  have := ho_som (List.replicate k none)
  have e : som (List.replicate k none) = 0 := by unfold som; rw [List.filterMap_replicate_of_none rfl]; rfl
  rw [e, List.length_replicate] at this; exact this
theorem setCut_end {cs us : List AV} : setCut cs us cs.length cs.length = cs ++ us := by
  unfold setCut
  rw [List.take_length, show Nat.max cs.length cs.length = cs.length from Nat.max_self _, List.drop_length, List.append_nil]
theorem setCut_all {cs us : List AV} : setCut cs us 0 cs.length = us := by
  unfold setCut
  rw [List.take_zero, show Nat.max 0 cs.length = cs.length from Nat.max_eq_right (Nat.zero_le _), List.drop_length, List.append_nil]; rfl
theorem setCut_beg {cs us : List AV} : setCut cs us 0 0 = us ++ cs := by
  unfold setCut
  rw [List.take_zero, show Nat.max 0 0 = 0 from rfl, List.drop_zero]; rfl
theorem ext_cells {cs : List AV} {ys : List (Option D)} (A : All2 (Cl F w σ) cs ys) (z : Nat) : All2 (Cl F w σ) (cut (cs ++ List.replicate 12 AV.none) 0 z) (ext ys z) := by
  have r : ∀ k, All2 (Cl F w σ) (List.replicate k AV.none) (List.replicate k none) := fun k => by
    induction k with
    | zero => exact .nil
    | succ k ih => exact .cons .none ih
  unfold cut ext
  rw [List.drop_zero, Nat.sub_zero]
  exact (A.append (r 12)).take z
theorem ext_pot {l : List (Option D)} {z : Nat} (h : z ≤ 12) : ((0 : Nat) : Int) + ((ho (ext l z) - 6 : Nat) : Int) ≤ ((ho l - 6 : Nat) : Int) + 6 ∧ ((ext l z).length ≤ l.length + 3 ∨ (ext l z).length ≤ 12) := by
  have e : (ext l z).length ≤ 12 := by unfold ext; rw [List.length_take]; exact Nat.le_trans (Nat.min_le_left ..) h
  exact ⟨pot_lt (k := 6) (m := 0) (Nat.le_trans (Nat.le_of_eq (Nat.zero_add _)) (Nat.sub_le_of_le_add (Nat.le_trans (Nat.le_trans (Nat.le_add_right _ _) (Nat.le_of_eq (ho_som _))) e))), .inr e⟩
theorem resized_deed (O : Ok F w σ) (N : Nice w) (T : Tiny w) (he : xv w = w.ys) {i : Int} (q : ∀ w' σ', Deed F w σ w' σ' 6 → Q (.bool true) σ') : callF fi (n+6) 63 [.ref F.ct, .ref F.arr, .ref F.C, .int i] Q E σ := by
  have hx := T.xs
  have hxl := xv_len (w := w)
  refine ⟨_, _, rfl, rfl, _, rfl, _, rfl, _, rfl, evs_n12 <| resize_ok O N T (fun h => ⟨_, rfl, _, _, rfl, rfl, ?_⟩) fun w₁ σ₁ hi Ω P => ⟨_, rfl, _, _, rfl, rfl, _, rfl, if_f (decide_eq_false (by lia)) ?_⟩⟩
  · have : Q (.bool (decide (12 < i))) σ := by rw [decide_eq_true h]; exact q w σ ⟨.refl O, N, he, by lia, .inl (by lia)⟩
    exact this
  · obtain ⟨cs, hC, A⟩ := P.go.ok.C
    have el : cs.length = w.ys.length := by rw [A.length, P.ys]
    have ely : w.ys.length ≤ 100 := by rw [← he, hxl]; exact hx
    refine ⟨_, rfl, Nat.le_of_ble_eq_true rfl, fun a ha => ⟨a, 12, [.none], rfl, rfl, put_eq, ⟨by decide, by decide⟩, Nat.le_of_ble_eq_true rfl, fun b hb => ?_⟩⟩
    rw [show (List.replicate ((12 : Int).toNat) [AV.none]).flatten = List.replicate 12 AV.none from List.flatten_replicate_singleton ..]
    have G₁ := P.go.ok.new ha (.list [.none])
    have G₂ := G₁.trans (G₁.ok.new hb (.list (List.replicate 12 .none)))
    refine ⟨F.C, b, cs, _, rfl, rfl, put_new hb (put_new ha hC), put_eq, by rw [List.length_replicate]; first | exact lim_of (by assumption) (by rfl) | (show _ ≤ 10000; lia), fun c hc => ?_⟩
    have G₃ := G₂.trans (G₂.ok.new hc (.list (cs ++ List.replicate 12 .none)))
    have hz : (if i < 0 then (0 : Int) else i) = (i.toNat : Nat) := by split <;> lia
    have l12 : (cs ++ List.replicate 12 AV.none).length = cs.length + 12 := by rw [List.length_append, List.length_replicate]
    refine ⟨_, rfl, _, _, rfl, rfl, ?_⟩
    rw [hz]
    refine ⟨c, _, 0, i.toNat, rfl, put_eq, by rw [l12]; first | exact lim_of (by assumption) (by rfl) | (show _ ≤ 10000; lia), rfl, hiB_nat (by rw [l12]; exact Nat.le_trans (Int.toNat_le.mpr hi) (Nat.le_add_left 12 _)), fun d hd => ?_⟩
    have G₄ := G₃.trans (G₃.ok.new hd (.list (cut (cs ++ List.replicate 12 .none) 0 i.toNat)))
    have hC₄ := put_new (o := .list (cut (cs ++ List.replicate 12 .none) 0 i.toNat)) hd (put_new (o := .list (cs ++ List.replicate 12 .none)) hc (put_new (o := .list (List.replicate 12 .none)) hb (put_new (o := .list [.none]) ha hC)))
    have A₄ := ext_cells (A.mono fun Ω Ω h => h.st G₄.st) i.toNat
    have G₅ := G₄.ok.setCells A₄
    have hle := A₄.length
    have hee : (ext w₁.ys i.toNat).length ≤ 12 := by unfold ext; rw [List.length_take]; exact Nat.le_trans (Nat.min_le_left ..) (Int.toNat_le.mpr hi)
    have hdC : d ≠ F.C := fun e => by rw [e, put_new hc (put_new hb (put_new ha hC))] at hd; cases hd
    refine ⟨_, rfl, F.C, d, cs, _, 0, cs.length, rfl, rfl, hdC, hC₄, put_eq, by first | exact lim_of (by assumption) (by rfl) | (show _ ≤ 10000; lia), rfl, rfl, ?_⟩
    rw [setCut_all]
    have hys : w₁.ys = xv w := P.ys.trans he.symm
    have hp := ext_pot (l := xv w) (z := i.toNat) (by lia)
    refine q _ _ ⟨P.go.trans (G₄.trans G₅), nice_ys P.nice, ?_, ?_, ?_⟩
    · show xv w₁ = ext w₁.ys _; rw [P.xv, hys]
    · show w₁.last + ((ho (xv w₁) - 6 : Nat) : Int) ≤ _
      rw [P.xv, P.last]; exact pot_w hp.1
    · show w₁.xs.length ≤ _ ∨ _; rw [P.len, ← hxl]; exact hp.2
theorem ins_pot {l X : List (Option D)} {ds : List D} (h : ho X ≤ ho l) (hd : ds.length ≤ 3) (hl : X.length ≤ l.length + ds.length) : ((ds.length : Nat) : Int) + ((ho X - 6 : Nat) : Int) ≤ ((ho l - 6 : Nat) : Int) + 3 ∧ (X.length ≤ l.length + 3 ∨ X.length ≤ 12) := ⟨pot_le (k := 3) h hd, .inl (Nat.le_trans hl (Nat.add_le_add_left hd _))⟩
theorem Deed.mono {k j : Int} (D : Deed F w σ w' σ' k) (h : k ≤ j) : Deed F w σ w' σ' j := ⟨D.go, D.nice, D.eq, by have := D.pot; lia, D.len⟩
theorem Op.to {X Y : List (Option D)} {m : Nat} (P : Op F w σ w' σ' X m) (e : X = Y) : Op F w σ w' σ' Y m := e ▸ P
theorem Small.ys {X : List (Option D)} (S : Small w) : Small (w.ysTo X) := ⟨S.xs, S.last⟩
theorem ends_deed (O : Ok F w σ) (N : Nice w) (T : Tiny w) (he : xv w = w.ys) {l : Nat} {vs : List AV} {ds : List D} (L : At_ F w σ l (.list vs)) (V : All2 (Vl F w σ) vs ds) (hd : ds.length ≤ 3) {way : Int} (hw : way = 0 ∨ way = 1 ∨ way = 2 ∨ way = 3) (q : ∀ w' σ', Deed F w σ w' σ' 3 → Q (.bool true) σ') :
    callF fi (n+7) 64 [.ref F.ct, .ref F.arr, .ref F.C, .int way, .ref l] Q E σ := by
  have hx := T.xs
  have S := T.small
  have hxl := xv_len (w := w)
  have hv : vs.length ≤ 3 := V.length.symm ▸ hd
  have ely : w.ys.length ≤ 100 := by rw [← he, hxl]; exact hx
  obtain ⟨cs, hC, A⟩ := O.C
  have el : cs.length = w.ys.length := A.length
  -- two lists made longer
  have ins : ∀ (X : List (Option D)) (us : List AV) (σ₁ : AH) (a : Nat), Go F w σ w σ₁ → All2 (Cl F w σ₁) us (ds.map some) → σ₁ a = none → ∀ cs' : List AV → List AV, (∀ cs₀, All2 (Cl F w (σ₁.put a (.list us))) cs₀ w.ys → σ₁ F.C = some (.list cs₀) → All2 (Cl F w (σ₁.put a (.list us))) (cs' cs₀) X) → ∃ cs₀, σ₁ F.C = some (.list cs₀) ∧ cs₀.length = w.ys.length ∧ (cs' cs₀).length = X.length ∧ a ≠ F.C ∧
      Go F w σ (w.ysTo X) ((σ₁.put a (.list us)).put F.C (.list (cs' cs₀))) := by
    intro X us σ₁ a G U ha cs' h
    obtain ⟨cs₀, h₀, A₀⟩ := G.ok.C
    have G₁ := G.ok.new ha (.list us)
    have A' := h cs₀ (A₀.mono fun Ω Ω z => z.st G₁.st) h₀
    exact ⟨cs₀, h₀, A₀.length, A'.length, fun e => (by rw [e, h₀] at ha; cases ha), G.trans (G₁.trans (G₁.ok.setCells A'))⟩
  have l6 : ∀ k : Nat, k ≤ 200 → k ≤ lim := fun k h => Nat.le_trans h (Nat.le_of_ble_eq_true rfl)
  rcases hw with rfl | rfl | rfl | rfl
  · refine ⟨_, _, rfl, rfl, _, rfl, _, _, rfl, rfl, _, rfl, if_t rfl ⟨_, rfl, evs_nil <| made_ok O L (by lia) V fun σ₁ us a G U ha => ?_⟩⟩
    obtain ⟨cs₀, h₀, e₀, e₁, ne, G₂⟩ := ins (w.ys ++ ds.map some) us σ₁ a G U ha (fun c => c ++ us) fun c A₀ Ω => A₀.append (U.mono fun Ω Ω z => z.st (G.ok.new ha (.list us)).st)
    have eu : us.length = ds.length := by rw [U.length, List.length_map]
    refine ⟨_, rfl, _, rfl, _, _, rfl, put_new ha h₀, l6 _ (by lia), F.C, a, cs₀, us, cs₀.length, cs₀.length, rfl, rfl, ne, put_new ha h₀, put_eq, by first | exact lim_of (by assumption) (by rfl) | (show _ ≤ 10000; lia), loB_nat (Nat.le_refl _), rfl, ?_⟩
    rw [setCut_end]
    refine ⟨_, rfl, _, rfl, _, rfl, evs_nil <| push_ok G₂.ok (nice_ys N) S.ys (G₂.st.at_ _ _ L) (V.mono fun Ω Ω z => z.st G₂.st) (by lia) (l6 _ (by lia)) fun w' σ' P => ?_⟩
    have P' := P.to (Y := w.ys ++ ds.map some) (by show xv w ++ _ = _; rw [he])
    obtain ⟨cs₃, h₃, A₃⟩ := P.go.ok.C
    have e₃ : cs₃.length = w'.xs.length := by rw [A₃.length, P.ys, P'.len]
    have hpl := P'.len
    rw [List.length_append, List.length_map] at hpl
    have hq : Q (.bool (decide ((w'.xs.length : Int) = (cs₃.length : Int)))) σ' := by
      rw [decide_eq_true (by lia)]
      have hp := ins_pot (l := xv w) (X := w.ys ++ ds.map some) (by rw [ho_app, ho_somes, he]; exact Nat.le_refl _) hd (by rw [he, List.length_append, List.length_map]; exact Nat.le_refl _)
      exact q w' σ' (G₂.ysOp P' hp.1 (by rw [← hxl]; exact hp.2))
    exact ⟨_, rfl, _, _, rfl, h₃, l6 _ (by lia), _, _, rfl, rfl, hq⟩
  · refine ⟨_, _, rfl, rfl, _, rfl, _, _, rfl, rfl, _, rfl, if_f rfl ⟨_, rfl, _, _, rfl, rfl, _, rfl, if_t rfl ⟨_, rfl, evs_nil <| made_ok O L (by lia) V fun σ₁ us a G U ha => ?_⟩⟩⟩
    obtain ⟨cs₀, h₀, e₀, e₁, ne, G₂⟩ := ins (ds.map some ++ w.ys) us σ₁ a G U ha (fun c => us ++ c) fun c A₀ Ω => (U.mono fun Ω Ω z => z.st (G.ok.new ha (.list us)).st).append A₀
    have eu : us.length = ds.length := by rw [U.length, List.length_map]
    refine ⟨_, rfl, F.C, a, cs₀, us, 0, 0, rfl, rfl, ne, put_new ha h₀, put_eq, by first | exact lim_of (by assumption) (by rfl) | (show _ ≤ 10000; lia), rfl, hiB_nat (b := 0) (Nat.zero_le _), ?_⟩
    rw [setCut_beg]
    refine ⟨_, rfl, _, rfl, _, rfl, evs_nil <| unshift_ok G₂.ok (nice_ys N) S.ys (G₂.st.at_ _ _ L) (V.mono fun Ω Ω z => z.st G₂.st) (by lia) (l6 _ (by lia)) fun w' σ' P => ?_⟩
    have P' := P.to (Y := ds.map some ++ w.ys) (by show _ ++ xv w = _; rw [he])
    obtain ⟨cs₃, h₃, A₃⟩ := P.go.ok.C
    have e₃ : cs₃.length = w'.xs.length := by rw [A₃.length, P.ys, P'.len]
    have hpl := P'.len
    rw [List.length_append, List.length_map] at hpl
    have hq : Q (.bool (decide ((w'.xs.length : Int) = (cs₃.length : Int)))) σ' := by
      rw [decide_eq_true (by lia)]
      have hp := ins_pot (l := xv w) (X := ds.map some ++ w.ys) (by rw [ho_app, ho_somes, he]; lia) hd (by rw [he, List.length_append, List.length_map]; lia)
      exact q w' σ' (G₂.ysOp P' hp.1 (by rw [← hxl]; exact hp.2))
    exact ⟨_, rfl, _, _, rfl, h₃, l6 _ (by lia), _, _, rfl, rfl, hq⟩
  · refine ⟨_, _, rfl, rfl, _, rfl, _, _, rfl, rfl, _, rfl, if_f rfl ⟨_, rfl, _, _, rfl, rfl, _, rfl, if_f rfl ⟨_, rfl, _, _, rfl, hC, _, rfl, ?_⟩⟩⟩
    rcases List.eq_nil_or_concat cs with e | ⟨xs, v, e⟩
    · subst e
      have ey : w.ys = [] := List.eq_nil_of_length_eq_zero el.symm
      have ex : xv w = [] := he.trans ey
      refine if_f rfl ⟨_, rfl, _, _, rfl, rfl, _, rfl, if_t rfl ⟨_, rfl, _, rfl, evs_nil <| pop_ok O N S fun w' σ' v r x hx V P => ?_⟩⟩
      have hr : r = w.ys ∧ x = .none := by
        rcases hx with ⟨_, h, h'⟩ | ⟨o, h, _⟩
        · exact ⟨h.trans ey.symm, h'⟩
        · rw [ex] at h; exact absurd h.symm (by simp)
      rw [hr.2] at V
      exact evs_nil <| told_ok P.go.ok V fun σ₂ r' G₂ Tr => ⟨_, rfl, eqd_told Tr (.none (F := F) (w := w)) (q _ _ (by
        have D := (Go.refl O : Go F w σ (w.ysTo w.ys) σ).ysOp (P.to hr.1) (k := 3) (pot_d (by rw [← he]; exact Nat.le_add_right _ _)) (.inl (by rw [← he, hxl]; lia))
        exact ⟨D.go.trans G₂, D.nice, D.eq, D.pot, D.len⟩))⟩
    · rw [List.concat_eq_append] at e
      subst e
      obtain ⟨o, ys', ey, A', R⟩ := All2.snoc A
      have er := A'.length
      have ex : xv w = ys' ++ [o] := he.trans ey
      have G := O.setCells A'
      have hlx : ys'.length + 1 = w.xs.length := by rw [← hxl, ex, List.length_append]; rfl
      refine if_t (by cases xs <;> rfl) ⟨_, rfl, ⟨_, _, rfl, hC⟩, _, rfl, _, _, rfl, rfl, _, rfl, if_t rfl ⟨_, rfl, F.C, -1, xs ++ [v], xs.length, v, rfl, rfl, hC, l6 _ (by rw [List.length_append]; show xs.length + 1 ≤ 200; lia), ?_, by rw [List.getElem?_append_right (Nat.le_refl _), Nat.sub_self]; rfl, ?_⟩⟩
      · unfold place
        rw [List.length_append, if_neg (by decide), show (-1 : Int) + ((xs.length + [v].length : Nat) : Int) = xs.length by rw [Int.add_comm]; exact Int.add_sub_cancel xs.length 1, if_pos (Int.natCast_nonneg _)]
        rfl
      · rw [show (xs ++ [v]).eraseIdx xs.length = xs by rw [List.eraseIdx_append_of_length_le (Nat.le_refl _), Nat.sub_self]; exact List.append_nil _]
        refine evs_nil <| of_ok (R.st G.st) fun u Tu => ⟨_, rfl, _, _, rfl, rfl, _, rfl, if_t rfl ⟨_, rfl, _, rfl, evs_nil <| pop_ok G.ok (nice_ys N) S.ys fun w' σ' v r x hx V P => ?_⟩⟩
        have hr : r = ys' ∧ x = od o := by
          rcases hx with ⟨h, _, _⟩ | ⟨o', h, h'⟩
          · have h : xv w = [] := h; rw [ex] at h; exact absurd h (by simp)
          · have h : xv w = r ++ [o'] := h
            rw [ex] at h
            have := List.append_inj' h rfl
            have e2 := (List.cons.inj this.2).1
            exact ⟨this.1.symm, by rw [h', e2]⟩
        rw [hr.2] at V
        exact evs_nil <| told_ok P.go.ok V fun σ₂ r' G₂ Tr => ⟨_, rfl, eqd_told Tr ((Tu.st P.go.st).st G₂.st) (q _ _ (by
          have D := G.ysOp (P.to hr.1) (k := 3) (pot_d (Nat.le_trans (by rw [ex, ho_app]; exact Nat.le_add_right _ _) (Nat.le_add_right _ 3))) (.inl (by lia))
          exact ⟨D.go.trans G₂, D.nice, D.eq, D.pot, D.len⟩))⟩
  · refine ⟨_, _, rfl, rfl, _, rfl, _, _, rfl, rfl, _, rfl, if_f rfl ⟨_, rfl, _, _, rfl, rfl, _, rfl, if_f rfl ⟨_, rfl, _, _, rfl, hC, _, rfl, ?_⟩⟩⟩
    cases cs with
    | nil =>
      have ey : w.ys = [] := List.eq_nil_of_length_eq_zero el.symm
      have ex : xv w = [] := he.trans ey
      refine if_f rfl ⟨_, rfl, _, _, rfl, rfl, _, rfl, if_f rfl ⟨_, rfl, _, rfl, evs_nil <| shift_ok O N S fun w' σ' v r x hx V P => ?_⟩⟩
      have hr : r = w.ys ∧ x = .none := by
        rcases hx with ⟨_, h, h'⟩ | ⟨o, h, _⟩
        · exact ⟨h.trans ey.symm, h'⟩
        · rw [ex] at h; cases h
      rw [hr.2] at V
      exact evs_nil <| told_ok P.go.ok V fun σ₂ r' G₂ Tr => ⟨_, rfl, eqd_told Tr (.none (F := F) (w := w)) (q _ _ (by
        have D := (Go.refl O : Go F w σ (w.ysTo w.ys) σ).ysOp (P.to hr.1) (k := 3) (pot_d (by rw [← he]; exact Nat.le_add_right _ _)) (.inl (by rw [← he, hxl]; lia))
        exact ⟨D.go.trans G₂, D.nice, D.eq, D.pot, D.len⟩))⟩
    | cons v xs =>
      obtain ⟨o, ys', ey, A', R⟩ : ∃ o ys', w.ys = o :: ys' ∧ All2 (Cl F w σ) xs ys' ∧ Cl F w σ v o := by
        generalize w.ys = z at A
        cases A with
        | cons r k => exact ⟨_, _, rfl, k, r⟩
      have ex : xv w = o :: ys' := he.trans ey
      have G := O.setCells A'
      have hlx : ys'.length + 1 = w.xs.length := by rw [← hxl, ex]; rfl
      refine if_t rfl ⟨_, rfl, ⟨_, _, rfl, hC⟩, _, rfl, _, _, rfl, rfl, _, rfl, if_f rfl ⟨F.C, 0, v :: xs, 0, v, rfl, rfl, hC, l6 _ (by lia), place_nat (p := 0) (by show 0 < xs.length + 1; lia), rfl, ?_⟩⟩
      refine evs_nil <| of_ok (R.st G.st) fun u Tu => ⟨_, rfl, _, _, rfl, rfl, _, rfl, if_f rfl ⟨_, rfl, _, rfl, evs_nil <| shift_ok G.ok (nice_ys N) S.ys fun w' σ' v r x hx V P => ?_⟩⟩
      have hr : r = ys' ∧ x = od o := by
        rcases hx with ⟨h, _, _⟩ | ⟨o', h, h'⟩
        · have h : xv w = [] := h; rw [ex] at h; cases h
        · have h : xv w = o' :: r := h
          rw [ex] at h
          injection h with h1 h2
          exact ⟨h2.symm, by rw [h', h1]⟩
      rw [hr.2] at V
      exact evs_nil <| told_ok P.go.ok V fun σ₂ r' G₂ Tr => ⟨_, rfl, eqd_told Tr ((Tu.st P.go.st).st G₂.st) (q _ _ (by
        have D := G.ysOp (P.to hr.1) (k := 3) (pot_d (Nat.le_trans (by rw [ex, show o :: ys' = [o] ++ ys' from rfl, ho_app]; exact Nat.le_add_left _ _) (Nat.le_add_right _ 3))) (.inl (by lia))
        exact ⟨D.go.trans G₂, D.nice, D.eq, D.pot, D.len⟩))⟩
end
end
section
set_option tactic.hygienic false
open PySem PySem.W
section
variable {F : Fx} {w w' w'' : Wd} {σ σ' σ'' : AH} {Q : AV → AH → Prop} {E : EX} {n : Nat}
set_option tactic.hygienic true in
theorem ho_del {l : List (Option D)} {i : Int} : ho (del l i).2 ≤ ho l + 1 := by
  unfold del
  split
  · exact Nat.le_succ _
  · rename_i d e
    have h1 : ho (l.set (plc l.length i).toNat none) ≤ ho l + 1 := by
      have a := ho_som (l.set (plc l.length i).toNat none)
      have b := ho_som l
      rw [List.length_set] at a
      have hp := atI_in (in_of_at e).1 (in_of_at e).2
      rw [e] at hp
      have := (set_fm hp).length_eq
      rw [List.length_cons] at this
      have : som l = som (l.set (plc l.length i).toNat none) + 1 := this
      lia
    dsimp only
    split
    · refine Nat.le_trans ?_ h1
      unfold trim ho
      rw [List.countP_reverse]
      exact Nat.le_trans (List.dropWhile_sublist _).countP_le (Nat.le_of_eq List.countP_reverse)
    · exact h1
theorem dels_pot : ∀ {is : List Int} {l : List (Option D)}, ho (dels l is).2 ≤ ho l + is.length ∧ (dels l is).2.length ≤ l.length
  | [], l => ⟨Nat.le_refl _, Nat.le_refl _⟩
  | i :: r, l => by
    have h1 := ho_del (l := l) (i := i)
    have h2 := dels_pot (is := r) (l := (del l i).2)
    have h3 := del_len (l := l) (i := i)
    exact ⟨by show ho (dels (del l i).2 r).2 ≤ ho l + (r.length + 1); lia, Nat.le_trans h2.2 h3⟩
theorem ats_go (O : Ok F w σ) (hl : w.ys.length ≤ 1000) {l : Nat} {is : List Int} {ρ : Loc} {x : Nat} (hx : x ≠ 64) (L : At_ F w σ l (.list (is.map AV.int))) (r64 : ρ 64 = some (.ref F.C)) (q : ∀ σ' us a, Go F w σ w σ' → All2 (Tl F w σ') us (is.map fun i => od (atI w.ys i)) → σ' a = none → Q (.ref a) (σ'.put a (.list us))) :
    compL (fun v Q E σ => ev (callF fi (n+1)) (.call 56 (.cons (.call 57 (.cons (.loc 64) (.cons (.loc x) .nil))) .nil)) ((ρ.only [64]).put x v) Q E σ) l (is.map AV.int) Q E (is.map AV.int) [] σ := by
  refine comp_go (R := fun v (i : Int) => v = .int i) (ds := is) (f := fun i => od (atI w.ys i)) (T := fun σ => Tl F w σ) O (All2.mem_map rfl) (fun σ₁ G => (G.st.at_ _ _ L).at_) ?_ (fun Ω Ω Ω Ω G h => h.st G.st) q
  rintro σ₁ v i G rfl Q' k
  exact ⟨_, (if_neg (fun e => hx e.symm)).trans ((if_pos (show 64 ∈ [64] by decide)).trans r64), _, if_pos rfl, evs_nil <| at_ok G.ok hl fun v C => evs_nil <| of_ok C fun u T => k _ _ (.refl G.ok) T⟩
theorem slices9 (O : Ok F w σ) (N : Nice w) (T : Tiny w) (he : xv w = w.ys) {l : Nat} {is : List Int} (L : At_ F w σ l (.list (is.map AV.int))) (hi : is.length ≤ 3) {f : AV} (q : ∀ w' σ', Deed F w σ w' σ' 6 → Q (.bool true) σ') :
    callF fi (n+6) 61 [.ref F.ct, .ref F.arr, .ref F.C, .int 9, .ref l, f] Q E σ := by
  have hx := T.xs
  have hxl := xv_len (w := w)
  refine ⟨_, _, rfl, rfl, _, rfl, _, _, rfl, rfl, _, rfl, if_t rfl ⟨_, rfl, _, rfl, evs_nil <| slice_values_ok O N T.small L (by lia) fun σ₁ ys a G V ha => ?_⟩⟩
  have G₁ := G.trans (G.ok.new ha (.list ys))
  refine evs_nil <| all_ok G₁.ok (G.ok.newAt ha rfl) (by rw [V.length, List.length_map]; lia) (V.mono fun Ω Ω h => h.st (G.ok.new ha (.list ys)).st) fun σ₂ us b G₂ U hb => ?_
  have G₃ := G₂.ok.new hb (.list us)
  have G₄ := G₁.trans (G₂.trans G₃)
  have B := G₂.ok.newAt hb (show imm (.list us) = true from rfl)
  refine ⟨_, rfl, l, _, rfl, (G₄.st.at_ _ _ L).at_, by rw [List.length_map]; first | exact lim_of (by assumption) (by rfl) | (show _ ≤ 10000; lia), ats_go G₄.ok (by rw [← he, hxl]; lia) (by decide) (G₄.st.at_ _ _ L) rfl fun σ₅ ts c G₅ Ts hc => ?_⟩
  have G₆ := G₅.trans (G₅.ok.new hc (.list ts))
  rw [he] at U
  exact eqd_lists (G₆.st.at_ _ _ B).at_ put_eq (U.mono fun Ω Ω h => (h.st G₃.st).st G₆.st) (Ts.mono fun Ω Ω h => h.st (G₅.ok.new hc (.list ts)).st) (q w _ ⟨G₄.trans G₆, N, he, by lia, .inl (by lia)⟩)
theorem dels_go (O : Ok F w σ) (hl : w.ys.length ≤ 100) {l : Nat} {is : List Int} {ρ : Loc} (L : At_ F w σ l (.list (is.map AV.int))) (r64 : ρ 64 = some (.ref F.C)) (q : ∀ σ' us a, Go F w σ (w.ysTo (dels w.ys is).2) σ' → All2 (Tl F (w.ysTo (dels w.ys is).2) σ') us (dels w.ys is).1 → σ' a = none → Q (.ref a) (σ'.put a (.list us))) :
    compL (fun v Q E σ => ev (callF fi (n+2)) (.call 59 (.cons (.loc 64) (.cons (.loc 38) .nil))) ((ρ.only [64]).put 38 v) Q E σ) l (is.map AV.int) Q E (is.map AV.int) [] σ := by
  refine comp_ind (fun r ys σ' => ∃ i₂ X ds, r = i₂.map AV.int ∧ dels w.ys is = (ds ++ (dels X i₂).1, (dels X i₂).2) ∧ Go F w σ (w.ysTo X) σ' ∧ X.length ≤ w.ys.length ∧ All2 (Tl F (w.ysTo X) σ') ys ds) ?_ ?_ ?_ ⟨is, w.ys, [], rfl, rfl, .refl O, Nat.le_refl _, .nil⟩
  · rintro v r ys σ₁ ⟨i₂, X, ds, e1, e2, G, e3, A⟩ Q' k
    cases i₂ with
    | nil => cases e1
    | cons i i₂ =>
      cases e1
      refine ⟨_, (if_neg (by decide)).trans ((if_pos (show 64 ∈ [64] by decide)).trans r64), _, if_pos rfl, evs_nil <| deleted_ok G.ok (by show X.length ≤ 100; lia) fun σ₂ u G₂ Tu => k _ _ ⟨i₂, (del X i).2, ds ++ [(del X i).1], rfl, ?_, G.trans G₂, Nat.le_trans del_len e3, (A.mono fun Ω Ω h => h.st G₂.st).append (.cons Tu .nil)⟩⟩
      rw [e2, List.append_assoc]; rfl
  · rintro r ys σ₁ ⟨i₂, X, ds, e1, e2, G, e3, A⟩
    exact (G.st.at_ _ _ L).at_
  · rintro ys σ₁ ⟨i₂, X, ds, e1, e2, G, e3, A⟩ a ha
    cases i₂ with
    | cons => cases e1
    | nil =>
      have eo : dels w.ys is = (ds, X) := by rw [e2]; unfold dels; rw [List.append_nil]
      rw [eo] at q
      exact q σ₁ ys a G A ha
theorem slices10 (O : Ok F w σ) (N : Nice w) (T : Tiny w) (he : xv w = w.ys) {l : Nat} {is : List Int} (L : At_ F w σ l (.list (is.map AV.int))) (hi : is.length ≤ 3) {f : AV} (q : ∀ w' σ', Deed F w σ w' σ' 6 → Q (.bool true) σ') :
    callF fi (n+6) 61 [.ref F.ct, .ref F.arr, .ref F.C, .int 10, .ref l, f] Q E σ := by
  have hx := T.xs
  have hxl := xv_len (w := w)
  refine ⟨_, _, rfl, rfl, _, rfl, _, _, rfl, rfl, _, rfl, if_f rfl ⟨_, rfl, _, _, rfl, rfl, _, rfl, if_t rfl ⟨_, rfl, _, rfl, _, rfl, evs_nil <| delete_slice_ok O N T L (by lia) fun w₁ σ₁ ys a V P ha => ?_⟩⟩⟩
  have hy := P.ys
  have hp := dels_pot (is := is) (l := xv w)
  have hds : (dels (xv w) is).1.length = is.length := by
    have : ∀ (is : List Int) (l : List (Option D)), (dels l is).1.length = is.length := fun is => by
      induction is with
      | nil => intro l; rfl
      | cons i r ih => intro l; exact congrArg (· + 1) (ih _)
    exact this _ _
  have G₁ := P.go.ok.new ha (.list ys)
  refine evs_nil <| all_ok G₁.ok (P.go.ok.newAt ha rfl) (by rw [V.length, hds]; lia) (V.mono fun Ω Ω h => h.st G₁.st) fun σ₂ us b G₂ U hb => ?_
  have G₃ := G₂.ok.new hb (.list us)
  have G₄ := G₁.trans (G₂.trans G₃)
  have B := G₂.ok.newAt hb (show imm (.list us) = true from rfl)
  refine ⟨_, rfl, l, _, rfl, ((P.go.trans G₄).st.at_ _ _ L).at_, by rw [List.length_map]; first | exact lim_of (by assumption) (by rfl) | (show _ ≤ 10000; lia), dels_go G₄.ok (by rw [hy, ← he, hxl]; lia) ((P.go.trans G₄).st.at_ _ _ L) rfl fun σ₅ ts c G₅ Ts hc => ?_⟩
  have G₆ := G₅.trans (G₅.ok.new hc (.list ts))
  rw [hy, ← he] at Ts G₅ G₆
  refine eqd_lists (G₆.st.at_ _ _ B).at_ put_eq (U.mono fun Ω Ω h => (h.st G₃.st).st G₆.st) (Ts.mono fun Ω Ω h => h.st (G₅.ok.new hc (.list ts)).st) (q _ _ ⟨P.go.trans (G₄.trans G₆), nice_ys P.nice, P.xv, ?_, ?_⟩)
  · show w₁.last + ((ho (xv w₁) - 6 : Nat) : Int) ≤ _
    rw [P.xv, P.last]; exact pot_w (pot_d (k := 6) (Nat.le_trans hp.1 (Nat.add_le_add_left (by lia) _)))
  · show w₁.xs.length ≤ _ ∨ _; rw [P.len]; exact .inl (by lia)
end
end
section
set_option tactic.hygienic false
open PySem PySem.W
structure Pl (F : Fx) (w : Wd) (σ : AH) (f : Nat) (X : List (Option D)) (σ' : AH) (vs : List AV) : Prop where
  ok : Ok F ((w.ysTo X).add f) σ'
  at_ : ∀ b x, At_ F w σ b x → At_ F ((w.ysTo X).add f) σ' b x
  mine : ∀ a ∈ w.own, σ' a = σ a
  f : σ' f = some (.list vs)
section
variable {F : Fx} {w w' w'' : Wd} {σ σ' σ'' : AH} {Q : AV → AH → Prop} {E : EX} {n : Nat} {f : Nat} {X Y : List (Option D)} {vs us : List AV}
theorem Pl.init (O : Ok F w σ) (h : σ f = none) : Pl F w σ f w.ys (σ.put f (.list [])) [] :=
  ⟨O.own_new h rfl, fun b x B => ⟨put_new h B.at_, B.im, by
    have nb : b ≠ f := fun e => by have := B.at_; rw [e, h] at this; cases this
    have := B.ne
    simp only [muts, List.mem_cons, not_or] at this ⊢
    exact ⟨this.1, this.2.1, this.2.2.1, nb, this.2.2.2⟩⟩, fun a m => (Step.new O h _).mine a m, put_eq⟩
theorem Pl.notOwn (P : Pl F w σ f X σ' vs) : f ∉ w.own := by
  have nd := P.ok.nd
  simp only [muts, List.nodup_cons, List.mem_cons, not_or] at nd
  exact nd.2.2.2.1
theorem Pl.put (P : Pl F w σ f X σ' vs) : Pl F w σ f X (σ'.put f (.list us)) us :=
  ⟨P.ok.own_put rfl, fun b x B => let B' := P.at_ b x B; ⟨(put_ne (fun e : b = f => B'.ne (e.symm ▸ .tail _ (.tail _ (.tail _ (.head _)))))).trans B'.at_, B'.im, B'.ne⟩,
    fun a m => (put_ne (fun e : a = f => P.notOwn (e ▸ m))).trans (P.mine a m), put_eq⟩
theorem Pl.go (P : Pl F w σ f X σ' vs) (G : Go F ((w.ysTo X).add f) σ' ((w.ysTo Y).add f) σ'') : Pl F w σ f Y σ'' vs :=
  ⟨G.ok, fun b x B => G.st.at_ b x (P.at_ b x B), fun a m => (G.st.mine a (.tail _ m)).trans (P.mine a m), (G.st.mine f (.head _)).trans P.f⟩
theorem Pl.fin (P : Pl F w σ f X σ' vs) : Go F w σ (w.ysTo X) σ' ∧ At_ F (w.ysTo X) σ' f (.list vs) :=
  ⟨⟨P.ok.own_pop.1, rfl, fun b x B => let B' := P.at_ b x B; ⟨B'.at_, B'.im, by
    have := B'.ne
    simp only [muts, List.mem_cons, not_or] at this ⊢
    exact ⟨this.1, this.2.1, this.2.2.1, this.2.2.2.2⟩⟩, P.mine⟩, P.ok.own_pop.2 _ P.f⟩
theorem opns_some {l X : List (Option D)} {i : Int} {p : Nat} {r : List Int} (e : opn l i = some (p, X)) : opns l (i :: r) = ((opns X r).1.map (p :: ·), (opns X r).2) := by
  conv => lhs; unfold opns
  rw [e]
theorem places_loop {l : Nat} {is : List Int} (L : At_ F w σ l (.list (is.map AV.int))) (hi : is.length ≤ 3) {k : Ks} {ρ₀ : Loc} (r64 : ρ₀ 64 = some (.ref F.C)) (r17 : ρ₀ 17 = some (.ref f)) : ∀ (i₂ : List Int) (X : List (Option D)) (σ' : AH) (ps : List Nat) (ρ : Loc), ps.length + i₂.length ≤ 3 → X.length ≤ 100 → (∀ y, y ≠ 38 → ρ y = ρ₀ y) → Pl F w σ f X σ' (ps.map fun p => AV.int (p : Nat)) →
    (∀ ρ' σ'' vs, (∀ y, y ≠ 38 → ρ' y = ρ₀ y) → Pl F w σ f (opns X i₂).2 σ'' vs → (∀ qs, (opns X i₂).1 = some qs → vs = (ps ++ qs).map fun p => AV.int (p : Nat)) → ((opns X i₂).1 = none → ∃ qs : List Nat, qs.length ≤ 3 ∧ vs = (qs.map fun p => AV.int (p : Nat)) ++ [.none]) → k.next ρ' σ'') →
    forL (fun ρ k σ => exs (callF fi (n+1)) (.cons (.expr (.m1 .append (.loc 17) (.call 58 (.cons (.loc 64) (.cons (.loc 38) .nil))))) (.cons (.ite (.e (.u .isN (.b .idx (.loc 17) (.u .neg (.int 1))))) (.cons .brk .nil) .nil) .nil)) ρ k σ) 38 l (is.map AV.int) k (i₂.map AV.int) ρ σ'
  | [], X, σ', ps, ρ, hn, hx, hρ, P, hk => ⟨(P.at_ _ _ L).at_, hk ρ σ' _ hρ P (fun qs e => by cases e; rw [List.append_nil]) (fun e => by cases e)⟩
  | i :: i₂, X, σ', ps, ρ, hn, hx, hρ, P, hk => by
    have hρ' : ∀ y, y ≠ 38 → (ρ.put 38 (.int i)) y = ρ₀ y := fun y h => (if_neg h).trans (hρ y h)
    rw [List.length_cons] at hn
    -- the last one looked at
    have last : ∀ (us : List AV) (v : AV) (σ'' : AH) (Q : AV → AH → Prop) (E : EX), us.length ≤ 3 → σ'' f = some (.list (us ++ [v])) → Q v σ'' → ev (callF fi (n+1)) (.b .idx (.loc 17) (.u .neg (.int 1))) (ρ.put 38 (.int i)) Q E σ'' := fun us v σ'' Q E hu hf q =>
      ⟨_, (hρ' 17 (by decide)).trans r17, _, rfl, _, _, _, us.length, v, rfl, rfl, hf, by rw [List.length_append]; show us.length + 1 ≤ 10000; lia, by
        unfold place
        rw [List.length_append, if_neg (by decide), if_pos (by show (0 : Int) ≤ -1 + ((us.length + 1 : Nat) : Int); lia)]
        congr 1
        show (-1 + ((us.length + 1 : Nat) : Int)).toNat = _
        lia, by rw [List.getElem?_append_right (Nat.le_refl _), Nat.sub_self]; rfl, q⟩
    have lp : (ps.map fun p => AV.int ((p : Nat) : Int)).length ≤ 3 := by rw [List.length_map]; lia
    refine ⟨(P.at_ _ _ L).at_, _, (hρ' 17 (by decide)).trans r17, ⟨_, _, rfl, P.f⟩, _, (hρ' 64 (by decide)).trans r64, _, rfl, evs_nil <| opened_ok P.ok hx (fun e => ?_) fun p X' σ'' e G => ?_⟩
    · refine ⟨f, _, rfl, P.f, by show _ < 10000; lia, last _ _ _ _ _ lp put_eq (isN_t ⟨_, rfl, if_t rfl ?_⟩)⟩
      have e : opn X i = none := e
      have eo : opns X (i :: i₂) = (none, X) := by unfold opns; rw [e]
      rw [eo] at hk
      exact hk _ _ _ hρ' P.put (fun qs e => by cases e) fun Ω => ⟨ps, by lia, rfl⟩
    · have P' := P.go G
      have e : opn X i = some (p, X') := e
      refine ⟨f, _, rfl, P'.f, by show _ < 10000; lia, last _ _ _ _ _ lp put_eq (isN_f nofun ⟨_, rfl, if_f rfl ?_⟩)⟩
      have hl := (opn_len e).2.1
      have eo := opns_some (r := i₂) e
      have P₂ : Pl F w σ f X' (σ''.put f (.list ((ps.map fun p => AV.int ((p : Nat) : Int)) ++ [.int p]))) ((ps ++ [p]).map fun p => AV.int ((p : Nat) : Int)) := by rw [List.map_append]; exact P'.put
      refine places_loop L hi r64 r17 i₂ X' _ (ps ++ [p]) _ (by rw [List.length_append]; show ps.length + 1 + _ ≤ 3; lia) (by lia) hρ' P₂ fun ρ' σ₃ vs h1 h2 h3 h4 => ?_
      rw [eo] at hk
      refine hk ρ' σ₃ vs h1 h2 (fun qs e => ?_) (fun e => h4 (by
        cases h : (opns X' i₂).1 with
        | none => rfl
        | some z => rw [h] at e; cases e))
      cases h : (opns X' i₂).1 with
      | none => rw [h] at e; cases e
      | some z => rw [h] at e; cases e; rw [h3 z h, List.append_assoc]; rfl
end
end
section
set_option tactic.hygienic false
open PySem PySem.W
section
variable {F : Fx} {w w' w'' : Wd} {σ σ' σ'' : AH} {Q : AV → AH → Prop} {E : EX} {n : Nat}
theorem ints_rd : ∀ {qs : List Nat}, RdA σ (qs.map fun p => AV.int (p : Nat)) (qs.map fun p => PyData.int (p : Nat)) ∧ PyData.canLayAll0 (qs.map fun p => PyData.int ((p : Nat) : Int)) = true ∧ PyData.depthAll (qs.map fun p => PyData.int ((p : Nat) : Int)) ≤ 8 ∧ ((qs.map fun p => PyData.int ((p : Nat) : Int)).any fun y => PyData.eqv y .none) = false
  | [] => ⟨.nil, rfl, Nat.zero_le _, rfl⟩
  | p :: qs => by
    obtain ⟨a, b, c, d⟩ := ints_rd (qs := qs)
    exact ⟨.cons (.int _) a, b, Nat.max_le.mpr ⟨Nat.zero_le _, c⟩, d⟩
theorem inl_f {f : Nat} {qs : List Nat} (hf : σ f = some (.list (qs.map fun p => AV.int (p : Nat)))) (q : Q (.bool false) σ) : sem2 .inl .none (.ref f) Q σ := by
  obtain ⟨a, b, c, d⟩ := ints_rd (σ := σ) (qs := qs)
  exact ⟨f, .none, _, rfl, .none, rfl, b, c, .inl (.list hf a), by rw [d]; exact q⟩
theorem ints_none : ∀ {qs : List Nat}, RdA σ ((qs.map fun p => AV.int (p : Nat)) ++ [.none]) ((qs.map fun p => PyData.int (p : Nat)) ++ [PyData.none]) ∧ PyData.canLayAll0 ((qs.map fun p => PyData.int ((p : Nat) : Int)) ++ [PyData.none]) = true ∧ PyData.depthAll ((qs.map fun p => PyData.int ((p : Nat) : Int)) ++ [PyData.none]) ≤ 8 ∧ (((qs.map fun p => PyData.int ((p : Nat) : Int)) ++ [PyData.none]).any fun y => PyData.eqv y .none) = true
  | [] => ⟨.cons .none .nil, rfl, by show max 0 0 ≤ 8; decide, rfl⟩
  | p :: qs => by
    obtain ⟨a, b, c, d⟩ := ints_none (qs := qs)
    exact ⟨.cons (.int _) a, b, Nat.max_le.mpr ⟨Nat.zero_le _, c⟩, d⟩
theorem inl_t {f : Nat} {qs : List Nat} (hf : σ f = some (.list ((qs.map fun p => AV.int (p : Nat)) ++ [.none]))) (q : Q (.bool true) σ) : sem2 .inl .none (.ref f) Q σ := by
  obtain ⟨a, b, c, d⟩ := ints_none (σ := σ) (qs := qs)
  exact ⟨f, .none, _, rfl, .none, rfl, b, c, .inl (.list hf a), by rw [d]; exact q⟩
theorem nums_go (O : Ok F w σ) (N : Nice w) {l : Nat} {ss : List Sc} (hs : ∀ s ∈ ss, some s ∈ w.xs) (hl : ∀ σ₁, Go F w σ w σ₁ → σ₁ l = some (.list (ss.map Sc.v))) {ρ : Loc} (q : ∀ σ' us a, Go F w σ w σ' → All2 (Tl F w σ') us (ss.map fun s => .int s.n) → σ' a = none → Q (.ref a) (σ'.put a (.list us))) :
    compL (fun v Q E σ => ev (callF fi n) (.u (.attr 0) (.loc 59)) (ρ.put 59 v) Q E σ) l (ss.map Sc.v) Q E (ss.map Sc.v) [] σ := by
  refine comp_go (R := fun v (s : Sc) => v = s.v ∧ some s ∈ w.xs) (ds := ss) (f := fun s => .int s.n) (T := fun σ => Tl F w σ) O ?_ hl ?_ (fun Ω Ω Ω Ω G h => h.st G.st) q
  · have := All2.maps (R := fun v (s : Sc) => v = s.v ∧ some s ∈ w.xs) (f := Sc.v) (g := id) (l := ss) fun x m => ⟨rfl, hs x m⟩
    rwa [List.map_id] at this
  · rintro σ₁ v s G ⟨rfl, h⟩ Q' k
    obtain ⟨wk, v, e, _⟩ := (G.ok.live s (N.mem h)).ex
    exact ⟨_, if_pos rfl, _, _, _, _, rfl, e, rfl, k _ _ (.refl G.ok) (.int _)⟩
theorem pnums_go (O : Ok F w σ) (N : Nice w) (S : Small w) {l : Nat} {ss : List Sc} {ps : List Nat} (hs : All2 (fun s p => w.xs[p]? = some (some s)) ss ps) (L : At_ F w σ l (.list (ps.map fun p => AV.int (p : Nat)))) {ρ : Loc} (r31 : ρ 31 = some (.ref F.arr)) (q : ∀ σ' us a, Go F w σ w σ' → All2 (Tl F w σ') us (ss.map fun s => .int s.n) → σ' a = none → Q (.ref a) (σ'.put a (.list us))) :
    compL (fun v Q E σ => ev (callF fi n) (.u (.attr 0) (.b .idx (.u (.attr 8) (.loc 31)) (.loc 39))) ((ρ.only [31]).put 39 v) Q E σ) l (ps.map fun p => AV.int (p : Nat)) Q E (ps.map fun p => AV.int (p : Nat)) [] σ := by
  refine comp_go (R := fun v (s : Sc) => ∃ p : Nat, v = .int p ∧ w.xs[p]? = some (some s)) (ds := ss) (f := fun s => .int s.n) (T := fun σ => Tl F w σ) O ?_ (fun σ₁ G => (G.st.at_ _ _ L).at_) ?_ (fun Ω Ω Ω Ω G h => h.st G.st) q
  · clear q L
    induction hs with
    | nil => exact .nil
    | cons h _ ih => exact .cons ⟨_, rfl, h⟩ ih
  · rintro σ₁ v s G ⟨p, rfl, h⟩ Q' k
    obtain ⟨wk, v, e, _⟩ := (G.ok.live s (N.mem (List.mem_of_getElem? h))).ex
    obtain ⟨wk', ha⟩ := G.ok.arr
    exact ⟨_, (if_neg (by decide)).trans ((if_pos (show 31 ∈ [31] by decide)).trans r31), _, _, _, _, rfl, ha, rfl, _, if_pos rfl, idx_I (o := some s) G.ok S (Int.natCast_nonneg p) (by rw [Int.toNat_natCast]; exact h) ⟨_, _, _, _, rfl, e, rfl, k _ _ (.refl G.ok) (.int _)⟩⟩
theorem store_loop {fr el pl : Nat} {vs : List AV} {ds : List D} {as ps : List Nat} {k : Ks} {ρ₀ : Loc} (r25 : ρ₀ 25 = some (.ref F.ct)) (r64 : ρ₀ 64 = some (.ref F.C)) (r27 : ρ₀ 27 = some (.ref fr)) (r67 : ρ₀ 67 = some (.ref el)) (r17 : ρ₀ 17 = some (.ref pl)) (hn : ps.length ≤ 3) (hv : vs.length ≤ 3) (la : as.length = ps.length) {K : Nat} (hK : K ≤ ps.length) (hK2 : K ≤ vs.length) :
    ∀ (d j : Nat) (w : Wd) (σ : AH) (ρ : Loc), j + d = K → Ok F w σ → Nice w → xv w = w.ys → w.ys.length ≤ 100 → At_ F w σ fr (.list vs) → All2 (Vl F w σ) vs ds → At_ F w σ el (.list (as.map AV.ref)) → At_ F w σ pl (.list (ps.map fun p => AV.int (p : Nat))) → (∀ (i : Nat) (a p : Nat), as[i]? = some a → ps[i]? = some p → ∃ t, w.xs[p]? = some (some t) ∧ t.a = a) → (∀ y, y ≠ 62 → ρ y = ρ₀ y) →
      (∀ w' σ' ρ', Go F w σ w' σ' → Nice w' → xv w' = w'.ys → som (xv w') = som (xv w) → (xv w').length = (xv w).length → w'.last = w.last → (∀ y, y ≠ 62 → ρ' y = ρ₀ y) → k.next ρ' σ') →
      forN (fun ρ k σ => exs (callF fi (n+3)) (.cons (.expr (.mcall (.loc 25) 559 44 66 (.cons (.b .idx (.loc 67) (.loc 62)) (.cons (.b .idx (.loc 27) (.loc 62)) .nil)))) (.cons (.setI (.loc 64) (.b .idx (.loc 17) (.loc 62)) (.list (.cons (.call 51 (.cons (.b .idx (.loc 27) (.loc 62)) .nil)) .nil))) .nil)) ρ k σ) 62 k ((List.range' j d).map fun (k : Nat) => AV.int (k : Int)) ρ σ
  | 0, j, w, σ, ρ, _, O, N, he, _, _, _, _, _, _, hρ, hk => hk w σ ρ (.refl O) N he rfl rfl rfl hρ
  | d + 1, j, w, σ, ρ, hj, O, N, he, hy, Lf, V, Le, Lp, hs, hρ, hk => by
    have hρ' : ∀ y, y ≠ 62 → (ρ.put 62 (.int (j : Nat))) y = ρ₀ y := fun y h => (if_neg h).trans (hρ y h)
    have r62 : (ρ.put 62 (.int (j : Nat))) 62 = some (.int (j : Nat)) := if_pos rfl
    obtain ⟨P, hct, _⟩ := O.ct
    obtain ⟨a, ha⟩ : ∃ a, as[j]? = some a := ⟨_, List.getElem?_eq_getElem (by lia)⟩
    obtain ⟨p, hp⟩ : ∃ p, ps[j]? = some p := ⟨_, List.getElem?_eq_getElem (by lia)⟩
    obtain ⟨dj, hdj⟩ : ∃ x, ds[j]? = some x := ⟨_, List.getElem?_eq_getElem (by rw [← V.length]; lia)⟩
    obtain ⟨v, hvj, R⟩ := V.get hdj
    obtain ⟨t, ht, hta⟩ := hs j a p ha hp
    subst hta
    have hpl := (List.getElem?_eq_some_iff.mp ht).1
    have hfr : ∀ {w' : Wd} {σ' : AH}, At_ F w' σ' fr (.list vs) → ∀ {Q : AV → AH → Prop} {E : EX}, Q v σ' → ev (callF fi (n+3)) (.b .idx (.loc 27) (.loc 62)) (ρ.put 62 (.int (j : Nat))) Q E σ' := fun {w' σ'} L {Q E} q => ⟨_, (hρ' 27 (by decide)).trans r27, _, r62, _, _, _, j, v, rfl, rfl, L.at_, by first | exact lim_of (by assumption) (by rfl) | (show _ ≤ 10000; lia), place_nat (by lia), hvj, q⟩
    have hxp : (xv w)[p]? = some (some t.d) := by rw [xv, List.getElem?_map, ht]; rfl
    refine ⟨_, (hρ' 25 (by decide)).trans r25, _, _, rfl, hct.at_, rfl, _, (hρ' 67 (by decide)).trans r67, _, r62, _, _, _, j, .ref t.a, rfl, rfl, Le.at_, by rw [List.length_map]; first | exact lim_of (by assumption) (by rfl) | (show _ ≤ 10000; lia), place_nat (by rw [List.length_map]; lia), by rw [List.getElem?_map, ha]; rfl, hfr Lf <| evs_nil <| store_ok O N ht R fun w₁ σ₁ P₁ hst => ?_⟩
    refine hfr (P₁.go.st.at_ _ _ Lf) <| evs_nil <| told_ok P₁.go.ok (R.st P₁.go.st) fun σ₂ u G₂ Tu => ⟨Nat.le_of_ble_eq_true rfl, fun c hc => ?_⟩
    have G₃ := G₂.ok.new hc (.list [u])
    have B := G₂.ok.newAt hc (show imm (.list [u]) = true from rfl)
    obtain ⟨cs, hC, A⟩ := G₃.ok.C
    rw [P₁.ys] at A
    have el : cs.length = w.ys.length := A.length
    have hpy : p < w.ys.length := by rw [← he, xv_len]; exact hpl
    have G₄ := G₃.ok.setCells (A.set (.some B (Tu.st G₃.st)) p)
    have Gp := P₁.go.trans (G₂.trans G₃)
    have Gt := Gp.trans G₄
    refine ⟨_, (hρ' 64 (by decide)).trans r64, _, (hρ' 17 (by decide)).trans r17, _, r62, _, _, _, j, .int (p : Nat), rfl, rfl, (Gp.st.at_ _ _ Lp).at_, by rw [List.length_map]; first | exact lim_of (by assumption) (by rfl) | (show _ ≤ 10000; lia), place_nat (by rw [List.length_map]; lia), by rw [List.getElem?_map, hp]; rfl, F.C, p, cs, p, rfl, rfl, hC, by first | exact lim_of (by assumption) (by rfl) | (show _ ≤ 10000; lia), place_nat (by lia), ?_⟩
    have he' : xv (w₁.ysTo (w.ys.set p (some dj))) = w.ys.set p (some dj) := by show xv w₁ = _; rw [P₁.xv, he]
    refine store_loop r25 r64 r27 r67 r17 hn hv la hK hK2 d (j + 1) (w₁.ysTo (w.ys.set p (some dj))) _ _ (by lia) Gt.ok (nice_ys P₁.nice) he' (by show (w.ys.set p _).length ≤ 100; rw [List.length_set]; exact hy) (Gt.st.at_ _ _ Lf) (V.mono fun Ω Ω h => h.st Gt.st) (Gt.st.at_ _ _ Le) (Gt.st.at_ _ _ Lp) (fun i a' p' h1 h2 => ?_) hρ' fun w' σ' ρ' G N' e1 e2 e3 e4 h => hk w' σ' ρ' (Gt.trans G) N' e1 ?_ ?_ ?_ h
    · obtain ⟨t', ht', e⟩ := hs i a' p' h1 h2
      obtain ⟨t'', h3, h4⟩ := hst p' t' ht'
      exact ⟨t'', h3, h4.trans e⟩
    · rw [e2, he', ← he]; exact som_set2 hxp
    · rw [e3, he', ← he, List.length_set]
    · rw [e4]; show w₁.last = _; rw [P₁.last]; exact Int.add_zero _
theorem slices11 (O : Ok F w σ) (N : Nice w) (T : Tiny w) (he : xv w = w.ys) {l : Nat} {is : List Int} (L : At_ F w σ l (.list (is.map AV.int))) (hi : is.length ≤ 3) (hx : w.xs.length ≤ 90) (hw : w.last ≤ 190) {fr : Nat} {vs : List AV} {ds : List D} (Lf : At_ F w σ fr (.list vs)) (V : All2 (Vl F w σ) vs ds) (hd : ds.length ≤ 3)
    (q : ∀ w' σ', Deed F w σ w' σ' 6 → Q (.bool true) σ') : callF fi (n+8) 61 [.ref F.ct, .ref F.arr, .ref F.C, .int 11, .ref l, .ref fr] Q E σ := by
  have hxl := xv_len (w := w)
  have hv : vs.length ≤ 3 := V.length.symm ▸ hd
  refine ⟨_, _, rfl, rfl, _, rfl, _, _, rfl, rfl, _, rfl, if_f rfl ⟨_, rfl, _, _, rfl, rfl, _, rfl, if_f rfl ⟨Nat.zero_le _, fun f hf => ⟨_, rfl, l, _, rfl, put_new hf L.at_, ?_⟩⟩⟩⟩
  refine places_loop L hi rfl rfl is w.ys _ [] _ (by rw [List.length_nil]; lia) (by rw [← he, hxl]; lia) (fun Ω Ω => rfl) (Pl.init O hf) fun ρ σ₁ pv hρ P hsome hnone => ?_
  obtain ⟨G, Bf⟩ := P.fin
  have hxw : xv (w.ysTo (opns w.ys is).2) = w.ys := he
  have hoo : opns (xv (w.ysTo (opns w.ys is).2)) is = opns w.ys is := by rw [hxw]
  refine ⟨_, (hρ 25 (by decide)).trans rfl, _, (hρ 31 (by decide)).trans rfl, _, (hρ 43 (by decide)).trans rfl, evs_n12 <| slice_scalars_ok G.ok (nice_ys N) (tiny_ys T) (G.st.at_ _ _ L) hi hx hw (fun w' σ' m h1 h2 h3 h4 P₂ => ?_) fun w' σ' m ps ss a h1 h2 h3 h4 P₂ A ha => ?_⟩
  · rw [hoo] at h1 h2 h4 P₂
    obtain ⟨qs, hq, e⟩ := hnone h1
    subst e
    rw [hxw] at h2 h4
    have hp := som_pot h2 (by lia) h4
    have hln : (opns w.ys is).2.length ≤ w.xs.length + 3 ∨ (opns w.ys is).2.length ≤ 12 := h4.imp (fun h => by rw [h, ← he, hxl]; lia) id
    exact ⟨_, (hρ 17 (by decide)).trans rfl, inl_t (P₂.go.st.at_ _ _ Bf).at_ (q w' σ' (G.ysOp P₂ (by rw [he]; exact hp) hln))⟩
  · rw [hoo] at h1 h2 h4 P₂
    have e := hsome ps h1
    rw [List.nil_append] at e
    subst e
    rw [hxw] at h2 h4
    have hp := som_pot h2 (by lia) h4
    have hlx := P₂.len
    have hla : w'.last = w.last + (m : Nat) := P₂.last
    have hX : (opns w.ys is).2.length ≤ 100 := by rcases h4 with h | h <;> (have := hxl; rw [he] at this; lia)
    have S' : Small w' := ⟨by lia, by lia⟩
    have hss : ∀ s ∈ ss, some s ∈ w'.xs := fun s m => by
      obtain ⟨i, hi⟩ := List.mem_iff_getElem?.mp m
      clear hsome hnone
      have : ∀ {ss : List Sc} {ps : List Nat}, All2 (fun s p => w'.xs[p]? = some (some s)) ss ps → s ∈ ss → some s ∈ w'.xs := fun A m => by
        induction A with
        | nil => cases m
        | cons h _ ih =>
          rcases List.mem_cons.mp m with e | m
          · subst e; exact List.mem_of_getElem? h
          · exact ih m
      exact this A m
    have G₃ := P₂.go.trans (P₂.go.ok.new ha (.list (ss.map Sc.v)))
    have Be := P₂.go.ok.newAt ha (show imm (.list (ss.map Sc.v)) = true from rfl)
    have hls : ss.length = ps.length := A.length
    have hlp : ps.length ≤ 3 := by
      have : ∀ (is : List Int) (l : List (Option D)) (ps : List Nat), (opns l is).1 = some ps → ps.length = is.length := fun is => by
        induction is with
        | nil => intro l ps h; cases h; rfl
        | cons i r ih =>
          intro l ps h
          cases e : opn l i with
          | none => unfold opns at h; rw [e] at h; cases h
          | some z =>
            rw [opns_some (X := z.2) (p := z.1) e] at h
            cases e2 : (opns z.2 r).1 with
            | none => rw [e2] at h; cases h
            | some y => rw [e2] at h; cases h; exact congrArg (· + 1) (ih _ _ e2)
      rw [this is _ _ h1]; exact hi
    have r17 : ∀ {ρ' : Loc}, (∀ y, y ≠ 67 → ρ' y = ρ y) → ρ' 17 = some (.ref f) := fun h => (h 17 (by decide)).trans ((hρ 17 (by decide)).trans rfl)
    refine ⟨_, (if_neg (by decide)).trans ((hρ 17 (by decide)).trans rfl), inl_f (G₃.st.at_ _ _ Bf).at_ ⟨_, rfl, if_f rfl ⟨_, if_pos rfl, a, _, rfl, Be.at_, by rw [List.length_map]; first | exact lim_of (by assumption) (by rfl) | (show _ ≤ 10000; lia), nums_go G₃.ok P₂.nice hss (fun σ₁ G => (G.st.at_ _ _ Be).at_) fun σ₄ us b G₄ U hb => ?_⟩⟩⟩
    have G₅ := G₄.ok.new hb (.list us)
    have Bu := G₄.ok.newAt hb (show imm (.list us) = true from rfl)
    have G₆ := G₃.trans (G₄.trans G₅)
    refine ⟨_, (if_neg (by decide)).trans ((hρ 17 (by decide)).trans rfl), f, _, rfl, (G₆.st.at_ _ _ Bf).at_, by rw [List.length_map]; first | exact lim_of (by assumption) (by rfl) | (show _ ≤ 10000; lia), pnums_go G₅.ok P₂.nice S' A (G₆.st.at_ _ _ Bf) ((if_neg (by decide)).trans ((hρ 31 (by decide)).trans rfl)) fun σ₇ ts c G₇ Tt hc => ?_⟩
    have G₈ := G₇.trans (G₇.ok.new hc (.list ts))
    have G₉ := G₆.trans G₈
    refine ned_lists (G₈.st.at_ _ _ Bu).at_ put_eq (U.mono fun Ω Ω h => (h.st G₅.st).st G₈.st) (Tt.mono fun Ω Ω h => h.st (G₇.ok.new hc (.list ts)).st) ⟨_, rfl, if_f rfl (if_f rfl ?_)⟩
    have Gw := G.trans G₉
    refine ⟨_, (if_neg (by decide)).trans ((hρ 17 (by decide)).trans rfl), _, _, rfl, (G₉.st.at_ _ _ Bf).at_, by rw [List.length_map]; first | exact lim_of (by assumption) (by rfl) | (show _ ≤ 10000; lia), _, (if_neg (by decide)).trans ((hρ 27 (by decide)).trans rfl), _, _, rfl, (Gw.st.at_ _ _ Lf).at_, by first | exact lim_of (by assumption) (by rfl) | (show _ ≤ 10000; lia), _, _, rfl, rfl, _, _, rfl, rfl, ⟨by decide, by decide⟩, ?_⟩
    rw [List.length_map]
    obtain ⟨K, hK⟩ : ∃ K : Nat, (if (vs.length : Int) < (ps.length : Int) then (vs.length : Int) else (ps.length : Int)) = K ∧ K ≤ ps.length ∧ K ≤ vs.length := by
      by_cases h : (vs.length : Int) < (ps.length : Int)
      · exact ⟨vs.length, if_pos h, by lia, Nat.le_refl _⟩
      · exact ⟨ps.length, if_neg h, Nat.le_refl _, by lia⟩
    rw [hK.1]
    refine ⟨⟨by show -((10000 : Nat) : Int) ≤ _; lia, by show _ ≤ ((10000 : Nat) : Int); lia⟩, ?_⟩
    rw [intsR_range]
    have he' : xv w' = w'.ys := P₂.xv.trans P₂.ys.symm
    refine store_loop (as := ss.map Sc.a) (ps := ps) ((if_neg (by decide)).trans ((hρ 25 (by decide)).trans rfl)) ((if_neg (by decide)).trans ((hρ 64 (by decide)).trans rfl)) ((if_neg (by decide)).trans ((hρ 27 (by decide)).trans rfl)) (if_pos rfl) ((if_neg (by decide)).trans ((hρ 17 (by decide)).trans rfl)) hlp hv (by rw [List.length_map]; exact hls) hK.2.1 hK.2.2 K 0 w' _ _ (Nat.zero_add _) G₈.ok P₂.nice he' (by rw [← he', P₂.xv]; exact hX) (Gw.st.at_ _ _ Lf) (V.mono fun Ω Ω h => h.st Gw.st) (by rw [List.map_map]; exact (G₄.trans (G₅.trans G₈)).st.at_ _ _ Be) (G₉.st.at_ _ _ Bf) (fun i a' p' h1 h2 => ?_) (fun Ω Ω => rfl) fun w₃ σ₃ ρ₃ G₃' N₃ e1 e2 e3 e4 h => ?_
    · rw [List.getElem?_map] at h1
      cases hs : ss[i]? with
      | none => rw [hs] at h1; cases h1
      | some s =>
        rw [hs] at h1
        cases h1
        obtain ⟨s', hs', hr⟩ := A.get h2
        rw [hs] at hs'
        cases hs'
        exact ⟨s, hr, rfl⟩
    · refine q w₃ σ₃ ⟨(Gw).trans G₃', N₃, e1, ?_, ?_⟩
      · have a1 := (ho_som (xv w₃)).trans (e3.trans (congrArg List.length P₂.xv))
        rw [e2, P₂.xv, ← ho_som (opns w.ys is).2] at a1
        unfold pot
        rw [Nat.add_right_cancel a1, e4, hla, he]
        exact pot_w hp
      · rw [← xv_len (w := w₃), e3, P₂.xv]
        rcases h4 with h | h
        · exact .inl (by rw [h, ← he, hxl]; lia)
        · exact .inr h
end
end
section
set_option tactic.hygienic false
open PySem PySem.W
section
variable {F : Fx} {w w' w'' : Wd} {σ σ' σ'' : AH} {Q : AV → AH → Prop} {E : EX} {n : Nat}
theorem evs_i {Φ : Nat → List AV → PT} {ρ : Loc} {Q : List AV → AH → Prop} {E : EX} {i : Int} (h : Q [.int i] σ) : evs Φ (.cons (.int i) .nil) ρ Q E σ := h
theorem All2.reverse {α β : Type} {R : α → β → Prop} {as : List α} {bs : List β} (h : All2 R as bs) : All2 R as.reverse bs.reverse := by
  induction h with
  | nil => exact .nil
  | cons a _ ih => rw [List.reverse_cons, List.reverse_cons]; exact ih.append (.cons a .nil)
theorem All2.flat {α β : Type} {R : α → β → Prop} {as : List α} {bs : List β} (h : All2 R as bs) : ∀ k, All2 R (List.replicate k as).flatten (List.replicate k bs).flatten
  | 0 => .nil
  | k + 1 => h.append (h.flat k)
theorem rep_nil {α : Type} : ∀ k, (List.replicate k ([] : List α)).flatten = []
  | 0 => rfl
  | k + 1 => rep_nil k
theorem rep_len {α : Type} {l : List α} : ∀ k, (List.replicate k l).flatten.length = k * l.length
  | 0 => (Nat.zero_mul _).symm
  | k + 1 => by show (l ++ _).length = _; rw [List.length_append, rep_len k, Nat.succ_mul, Nat.add_comm]
theorem place_last {N : Nat} (h : 0 < N) : place N (-1) = some (N - 1) := by
  cases N with
  | zero => cases h
  | succ n =>
    have e : (-1 : Int) + ((n + 1 : Nat) : Int) = n := by rw [Int.add_comm]; exact Int.add_sub_cancel n 1
    unfold place; rw [e, if_neg (by decide), if_pos (Int.natCast_nonneg n)]; rfl
theorem ite_go {Φ : Nat → List AV → PT} {ρ : Loc} {a b : X} {t : Bool} {Q : AV → AH → Prop} (P : AV → AH → Prop) (ha : t = true → ∀ Q : AV → AH → Prop, (∀ v σ, P v σ → Q v σ) → ev Φ a ρ Q E σ) (hb : t = false → ∀ Q : AV → AH → Prop, (∀ v σ, P v σ → Q v σ) → ev Φ b ρ Q E σ)
    (q : ∀ v σ, P v σ → Q v σ) : (t = true → ev Φ a ρ Q E σ) ∧ (t = false → ev Φ b ρ Q E σ) := ⟨fun h => ha h Q q, fun h => hb h Q q⟩
structure LT (F : Fx) (w : Wd) (σ : AH) (a : Nat) (us : List AV) (ds : List D) : Prop where
  at_ : At_ F w σ a (.list us)
  tl : All2 (Tl F w σ) us ds
theorem LT.st {a us ds} (h : LT F w σ a us ds) (G : Go F w σ w σ') : LT F w σ' a us ds := ⟨G.st.at_ _ _ h.at_, h.tl.mono fun Ω Ω h => h.st G.st⟩
theorem LT.len {a us ds} (h : LT F w σ a us ds) : us.length = ds.length := h.tl.length
theorem LT.new {a us ds} (O : Ok F w σ) (A : All2 (Tl F w σ) us ds) (ha : σ a = none) : Go F w σ w (σ.put a (.list us)) ∧ LT F w (σ.put a (.list us)) a us ds :=
  ⟨O.new ha _, O.newAt ha rfl, A.mono fun Ω Ω h => h.st (O.new ha (.list us)).st⟩
structure LV (F : Fx) (w : Wd) (σ : AH) (a : Nat) (us : List AV) (ds : List D) : Prop where
  at_ : At_ F w σ a (.list us)
  vl : All2 (Vl F w σ) us ds
theorem LV.st {a us ds} (h : LV F w σ a us ds) (G : Go F w σ w σ') : LV F w σ' a us ds := ⟨G.st.at_ _ _ h.at_, h.vl.mono fun Ω Ω h => h.st G.st⟩
theorem LV.len {a us ds} (h : LV F w σ a us ds) : us.length = ds.length := h.vl.length
theorem LV.new {a us ds} (O : Ok F w σ) (A : All2 (Vl F w σ) us ds) (ha : σ a = none) : Go F w σ w (σ.put a (.list us)) ∧ LV F w (σ.put a (.list us)) a us ds :=
  ⟨O.new ha _, O.newAt ha rfl, A.mono fun Ω Ω h => h.st (O.new ha (.list us)).st⟩
theorem allV {l us ds} (O : Ok F w σ) (h : LV F w σ l us ds) (hl : ds.length ≤ 1000) (q : ∀ σ' vs a, Go F w σ w σ' → LT F w σ' a vs ds → Q (.ref a) σ') : callF fi (n+2) 52 [.ref l] Q E σ :=
  all_ok O h.at_ (h.len ▸ hl) h.vl fun σ' us a G A ha => let ⟨G', L⟩ := LT.new G.ok A ha; q _ us a (G.trans G') L
theorem nedL {a b us vs ds} (x : LT F w σ a us ds) (y : LT F w σ b vs ds) (q : Q (.bool false) σ) : sem2 .ned (.ref a) (.ref b) Q σ := ned_lists x.at_.at_ y.at_.at_ x.tl y.tl q
theorem eqdL {a b us vs ds} (x : LT F w σ a us ds) (y : LT F w σ b vs ds) (q : Q (.bool true) σ) : sem2 .eqd (.ref a) (.ref b) Q σ := eqd_lists x.at_.at_ y.at_.at_ x.tl y.tl q
theorem plain_go (O : Ok F w σ) {cs : List AV} (hC : σ F.C = some (.list cs)) (A : All2 (Cl F w σ) cs w.ys) {ρ : Loc} (q : ∀ σ' us a, Go F w σ w σ' → LT F w σ' a us (w.ys.map od) → σ' F.C = some (.list cs) → Q (.ref a) σ') :
    compL (fun v Q E σ => ev (callF fi (n+1)) (.call 56 (.cons (.loc 63) .nil)) (ρ.put 63 v) Q E σ) F.C cs Q E cs [] σ := by
  refine comp_ind (fun r ys σ' => σ' = σ ∧ ∃ d₁ d₂, w.ys = d₁ ++ d₂ ∧ All2 (Cl F w σ) r d₂ ∧ All2 (Tl F w σ) ys (d₁.map od)) ?_ ?_ ?_ ⟨rfl, [], w.ys, rfl, A, .nil⟩
  · rintro v r ys _ ⟨rfl, d₁, d₂, e, R, B⟩ Q' k
    cases R with
    | @cons _ d _ d₃ h R => exact ⟨_, if_pos rfl, evs_nil <| of_ok h fun u T => k _ _ ⟨rfl, d₁ ++ [d], d₃, by rw [e, List.append_assoc]; rfl, R, by rw [List.map_append]; exact B.append (.cons T .nil)⟩⟩
  · rintro r ys _ ⟨rfl, _⟩; exact hC
  · rintro ys _ ⟨rfl, d₁, d₂, e, R, B⟩ a ha
    cases R
    rw [List.append_nil] at e
    obtain ⟨G, L⟩ := LT.new O (e ▸ B) ha
    exact q _ _ _ G L (put_new ha hC)
theorem last_at {us : List AV} {ds : List D} (A : All2 (Tl F w σ) us ds) (h : us ≠ []) : ∃ u, us[us.length - 1]? = some u ∧ Tl F w σ u (lastD ds) := by
  have hp := List.length_pos_iff.mpr h
  have e : ds[us.length - 1]? = some (lastD ds) := by
    unfold lastD
    rw [List.getLast?_eq_getElem?, A.length, List.getElem?_eq_getElem (by rw [← A.length]; lia)]; rfl
  exact A.get e
theorem lists_ok (O : Ok F w σ) (N : Nice w) (T : Tiny w) (he : xv w = w.ys) {l : Nat} {is : List Int} (L : At_ F w σ l (.list (is.map AV.int))) (hi : is.length ≤ 3) {i : Int} (h1 : -20 ≤ i) (h2 : i ≤ 20) (q : ∀ σ', Go F w σ w σ' → Q (.bool true) σ') :
    callF fi (n+6) 65 [.ref F.arr, .ref F.C, .int i, .ref l] Q E σ := by
  have hx := T.xs
  have hxl := xv_len (w := w)
  have hy : w.ys.length ≤ 100 := by rw [← he, hxl]; exact hx
  have hyd : (w.ys.map od).length ≤ 100 := by rw [List.length_map]; exact hy
  have hyk : (w.ys.map od).length ≤ 1000 := Nat.le_trans hyd (by decide)
  obtain ⟨cs, hC, A⟩ := O.C
  refine ⟨_, _, rfl, rfl, _, rfl, F.C, cs, rfl, hC, lim_of (m := 100) (A.length ▸ hy) rfl, plain_go O hC A fun σ₁ us a G₁ P hC₁ => ⟨_, rfl, evs_nil <| array_values_ok G₁.ok N T.small fun σ₂ ys b G₂ V hb => ?_⟩⟩
  rw [he] at V
  obtain ⟨G₃, W⟩ := LV.new G₂.ok V hb
  have G := G₂.trans G₃
  refine ⟨_, rfl, evs_nil <| allV G₃.ok W hyk fun σ₄ us₄ c G₄ P₄ => ⟨_, rfl, nedL P₄ (P.st (G.trans G₄)) ⟨_, rfl, if_f rfl ?_⟩⟩⟩
  have P := P.st (G.trans G₄)
  have W := W.st G₄
  have G := G₁.trans (G.trans G₄)
  refine ⟨_, rfl, evs_nil <| reversed_ok W.at_.at_ (lim_of (W.len ▸ hyd) rfl) fun d hd => ?_⟩
  obtain ⟨G₅, W₅⟩ := LV.new G₄.ok W.vl.reverse hd
  refine evs_nil <| allV G₅.ok W₅ (by rw [List.length_reverse]; exact hyk) fun σ₆ us₆ e G₆ P₆ => ⟨_, rfl, a, us, rfl, (P.st (G₅.trans G₆)).at_.at_, lim_of (P.len ▸ hyd) rfl, fun f hf => ?_⟩
  obtain ⟨G₇, P₇⟩ := LT.new G₆.ok (P.st (G₅.trans G₆)).tl.reverse hf
  have G := G.trans (G₅.trans (G₆.trans G₇))
  have P := P.st (G₅.trans (G₆.trans G₇))
  have W := W.st (G₅.trans (G₆.trans G₇))
  obtain ⟨wk, hA⟩ := G₇.ok.arr
  refine nedL (P₆.st G₇) P₇ ⟨_, rfl, if_f rfl ⟨_, rfl, _, _, _, _, rfl, hA, rfl, evs_nil <| plain_values_ok G₇.ok N T.small fun σ₈ us₈ e₈ G₈ V₈ h₈ => ?_⟩⟩
  rw [he] at V₈
  obtain ⟨G₉, W₉⟩ := LV.new G₈.ok V₈ h₈
  refine evs_nil <| allV G₉.ok W₉ hyk fun σ₁₀ us₁₀ e₁₀ G₁₀ P₁₀ => ⟨_, rfl, nedL P₁₀ (P.st (G₈.trans (G₉.trans G₁₀))) ⟨_, rfl, if_f rfl (if_f rfl ?_)⟩⟩
  have G := G.trans (G₈.trans (G₉.trans G₁₀))
  have P := P.st (G₈.trans (G₉.trans G₁₀))
  have W := W.st (G₈.trans (G₉.trans G₁₀))
  clear P₁₀ W₉ V₈ P₇ P₆ W₅ P₄ V
  obtain ⟨cs', hC', A'⟩ := G₁₀.ok.C
  refine ⟨_, rfl, F.C, cs', rfl, hC', _, rfl, ite_go (fun v σ' => ∃ d ts, v = .ref d ∧ Go F w σ₁₀ w σ' ∧ LT F w σ' d ts (if w.ys = [] then [] else is.map fun i => od (atI w.ys i))) (fun t Q k => ?_) (fun t Q k => ?_) ?_⟩
  · have : ¬ w.ys = [] := fun e => by rw [List.eq_nil_of_length_eq_zero (A'.length.trans (congrArg List.length e))] at t; cases t
    rw [if_neg this] at k
    exact ⟨_, rfl, l, _, rfl, (G.st.at_ _ _ L).at_, by rw [List.length_map]; exact lim_of hi rfl, ats_go G₁₀.ok (Nat.le_trans hy (by decide)) (by decide) (G.st.at_ _ _ L) rfl fun σ' ts d Gd Td hd => let ⟨Gn, Ln⟩ := LT.new Gd.ok Td hd; k _ _ ⟨d, ts, rfl, Gd.trans Gn, Ln⟩⟩
  · have : w.ys = [] := List.eq_nil_of_length_eq_zero (A'.length.symm.trans (by cases cs' with | nil => rfl | cons => cases t))
    rw [if_pos this] at k
    exact ⟨Nat.zero_le _, fun d hd => let ⟨Gn, Ln⟩ := LT.new G₁₀.ok .nil hd; k _ _ ⟨d, [], rfl, Gn, Ln⟩⟩
  rintro _ σ₁₁ ⟨d, ts, rfl, G₁₁, R⟩
  have G := G.trans G₁₁
  have P := P.st G₁₁
  have W := W.st G₁₁
  refine ⟨_, rfl, _, rfl, evs_nil <| list_slice_ok G₁₁.ok W.at_.at_ (W.len ▸ hyk) W.vl (G.st.at_ _ _ L).at_ (Nat.le_trans hi (by decide)) fun vs e V he => ?_⟩
  obtain ⟨G₁₂, W₁₂⟩ := LV.new G₁₁.ok V he
  have hil : (if w.ys = [] then [] else is.map fun i => od (atI w.ys i)).length ≤ 1000 := by split <;> first | exact Nat.zero_le _ | (rw [List.length_map]; exact Nat.le_trans hi (by decide))
  refine evs_nil <| allV G₁₂.ok W₁₂ hil fun σ₁₃ us₁₃ e₁₃ G₁₃ P₁₃ => ⟨_, rfl, nedL P₁₃ (R.st (G₁₂.trans G₁₃)) ⟨_, rfl, if_f rfl ?_⟩⟩
  have G := G.trans (G₁₂.trans G₁₃)
  have P := P.st (G₁₂.trans G₁₃)
  have W := W.st (G₁₂.trans G₁₃)
  refine ⟨_, rfl, evs_nil <| last_member_ok W.at_.at_ (W.len ▸ hyk) W.vl fun v V => evs_nil <| told_ok G₁₃.ok V fun σ₁₄ u G₁₄ Tu => ?_⟩
  have P := P.st G₁₄
  refine ⟨_, rfl, a, us, rfl, P.at_.at_, _, rfl, ite_go (fun v σ' => ∃ l us' p u, v = .ref l ∧ Go F w σ₁₄ w σ' ∧ σ' l = some (.list us') ∧ us'.length ≤ lim ∧ place us'.length (-1) = some p ∧ us'[p]? = some u ∧ Tl F w σ' u (lastD (w.ys.map od))) (fun t Q k => ?_) (fun t Q k => ?_) ?_⟩
  · have e : us = [] := List.isEmpty_iff.mp t
    have e2 : w.ys.map od = [] := List.eq_nil_of_length_eq_zero (by rw [← P.len, e]; rfl)
    rw [e2] at k
    refine ⟨_, rfl, Nat.le_of_ble_eq_true rfl, fun b hb => ⟨a, b, us, [.none], rfl, rfl, put_new hb P.at_.at_, put_eq, by rw [e]; exact Nat.le_of_ble_eq_true rfl, fun d hd => k _ _ ⟨d, us ++ [.none], 0, .none, rfl, (G₁₄.ok.new hb _).trans ((G₁₄.ok.new hb _).ok.new hd _), put_eq, by rw [e]; exact Nat.le_of_ble_eq_true rfl, by rw [e]; rfl, by rw [e]; rfl, .none⟩⟩⟩
  · have e : us ≠ [] := fun e => by rw [e] at t; cases t
    obtain ⟨u, hu, Tl⟩ := last_at P.tl e
    exact ⟨_, rfl, k _ _ ⟨a, us, _, u, rfl, .refl G₁₄.ok, P.at_.at_, lim_of (P.len ▸ hyd) rfl, place_last (List.length_pos_iff.mpr e), hu, Tl⟩⟩
  rintro _ σ₁₅ ⟨l', us', p, u', rfl, G₁₅, hl', hb', hp', hu', T'⟩
  refine ⟨_, rfl, l', -1, us', p, u', rfl, rfl, hl', hb', hp', hu', ned_told (Tu.st G₁₅.st) T' ⟨_, rfl, if_f rfl (if_f rfl ?_)⟩⟩
  have G := G.trans (G₁₄.trans G₁₅)
  have P := P.st G₁₅
  have W := W.st (G₁₄.trans G₁₅)
  refine ⟨Nat.zero_le _, fun d hd => ⟨_, _, rfl, rfl, ⟨by decide, by decide, by decide⟩, evs_i <| repeated_ok put_eq (Nat.zero_le _) (fun z => (z rfl).elim) (fun z => by rw [List.length_nil] at z; lia) fun b Ω hb => ⟨b, _, rfl, put_eq, _, rfl, if_f (by rw [rep_nil]; rfl) ?_⟩⟩⟩
  have G₁₆ := (G₁₅.ok.new hd (.list [])).trans ((G₁₅.ok.new hd (.list [])).ok.new hb (.list (List.replicate (AOp.pow.on 10 30).toNat ([] : List AV)).flatten))
  have G := G.trans G₁₆
  have P := P.st G₁₆
  have W := W.st G₁₆
  have hneg : ∀ m : Nat, -(AOp.pow.on 10 30) * (m : Int) ≤ 0 := fun m => Int.mul_nonpos_of_nonpos_of_nonneg (by decide) (Int.natCast_nonneg m)
  refine ⟨_, rfl, _, _, rfl, rfl, ⟨by decide, by decide, by decide⟩, _, rfl, evs_i <| repeated_ok W.at_.at_ (W.len ▸ hyk) (fun Ω => by decide) (fun z => by have := hneg ys.length; lia) fun b Ω hb => ⟨b, _, rfl, put_eq, _, rfl, if_f (by rw [show (-(AOp.pow.on 10 30)).toNat = 0 by decide]; rfl) (if_f rfl ?_)⟩⟩
  have G₁₇ := G₁₆.ok.new hb (.list (List.replicate (-(AOp.pow.on 10 30)).toNat ys).flatten)
  have G := G.trans G₁₇
  have P := P.st G₁₇
  have W := W.st G₁₇
  have elen : us.length = ys.length := P.len.trans W.len.symm
  refine ⟨_, rfl, _, rfl, evs_i <| repeated_ok W.at_.at_ (W.len ▸ hyk) (fun Ω => by lia) (fun z => ?_) fun b nb hb => ?_⟩
  · have hm : (i : Int).natAbs ≤ 2 ^ 40 ∧ ((us.length : Nat) : Int).natAbs ≤ 2 ^ 40 := ⟨by show i.natAbs ≤ 1099511627776; lia, Nat.le_trans (P.len ▸ hyd) (by decide)⟩
    refine ⟨_, rfl, _, rfl, a, us, rfl, P.at_.at_, lim_of (P.len ▸ hyd) rfl, _, _, rfl, rfl, hm, _, _, rfl, rfl, ?_⟩
    have : IOp.gt.on (AOp.mul.on i (us.length : Int)) 30 = true := decide_eq_true (by show 30 < i * _; rw [elen]; exact z)
    rw [this]
    exact q _ G
  · have hk : (List.replicate i.toNat ys).flatten.length ≤ 100 := by
      rw [rep_len]
      by_cases e : ys = []
      · rw [e]; exact Nat.zero_le _
      · have h30 : ¬ 30 < i * (ys.length : Int) := fun z => nb ⟨e, z⟩
        by_cases hn : i < 0
        · rw [show i.toNat = 0 by lia, Nat.zero_mul]; exact Nat.zero_le _
        · have : ((i.toNat * ys.length : Nat) : Int) = i * ys.length := by rw [Int.natCast_mul, Int.toNat_of_nonneg (by lia)]
          exact Int.ofNat_le.mp (by rw [this]; exact Int.le_trans (Int.not_lt.mp h30) (by decide))
    obtain ⟨G₁₈, W₁₈⟩ := LV.new G₁₇.ok (W.vl.flat i.toNat) hb
    refine evs_nil <| allV G₁₈.ok W₁₈ (by rw [← W₁₈.len]; lia) fun σ₁₉ us₁₉ e₁₉ G₁₉ P₁₉ => ?_
    have P := P.st (G₁₈.trans G₁₉)
    have ei : (if i < 0 then (0 : Int) else i).toNat = i.toNat := by split <;> lia
    refine ⟨_, rfl, _, rfl, _, _, rfl, rfl, a, _, us, rfl, rfl, P.at_.at_, ⟨by split <;> lia, by show _ ≤ ((10000 : Nat) : Int); split <;> lia⟩, ?_, fun c hc => ?_⟩
    · rw [ei, elen, Nat.mul_comm, ← rep_len]; exact lim_of hk rfl
    · rw [ei]
      obtain ⟨G₂₀, P₂₀⟩ := LT.new G₁₉.ok (P.tl.flat i.toNat) hc
      exact eqdL (P₁₉.st G₂₀) P₂₀ (q _ (G.trans (G₁₈.trans (G₁₉.trans G₂₀))))
end
end
section
set_option tactic.hygienic false
open PySem PySem.W
section
variable {F : Fx} {w w' w'' : Wd} {σ σ' σ'' : AH} {Q : AV → AH → Prop} {E : EX} {n : Nat} {ρ : Loc} {K : Ks}
theorem ho_cut {l : List (Option D)} {b c : Nat} {ds : List D} (h : b + c ≤ l.length) : ho (l.take b ++ ds.map some ++ l.drop (b + c)) ≤ ho l ∧ (l.take b ++ ds.map some ++ l.drop (b + c)).length ≤ l.length + ds.length := by
  obtain ⟨e, _, _⟩ := split3 h
  have h2 : ho l = ho (l.take b) + ho ((l.drop b).take c) + ho (l.drop (b + c)) := by conv => lhs; rw [e, ho_app, ho_app]
  rw [ho_app, ho_app, ho_somes]
  refine ⟨?_, ?_⟩
  · rw [h2]; exact Nat.add_le_add_right (Nat.le_add_right _ _) _
  rw [List.length_append, List.length_append, List.length_map, Nat.add_right_comm]
  refine Nat.add_le_add_right ?_ _
  rw [List.length_take, List.length_drop]
  exact Nat.le_trans (Nat.add_le_add (Nat.min_le_left _ _) (Nat.sub_le_sub_left (Nat.le_add_right _ _) _)) (Nat.le_of_eq (Nat.add_sub_cancel' (Nat.le_trans (Nat.le_add_right _ _) h)))
theorem splice_deed (O : Ok F w σ) (N : Nice w) (T : Tiny w) (he : xv w = w.ys) {l : Nat} {vs : List AV} {ds : List D} (L : At_ F w σ l (.list vs)) (V : All2 (Vl F w σ) vs ds) (hd : ds.length ≤ 3) {i : Int} {len : Option Int}
    (r25 : ρ 25 = some (.ref F.ct)) (r31 : ρ 31 = some (.ref F.arr)) (r64 : ρ 64 = some (.ref F.C)) (r38 : ρ 38 = some (.int i)) (r35 : ρ 35 = some (oI len)) (r27 : ρ 27 = some (.ref l)) (q : ∀ w' σ', Deed F w σ w' σ' 6 → K.ret (.bool true) σ') :
    exs (callF fi (n+6)) (.cons (.assign 69 (.call 60 (.cons (.loc 64) (.cons (.loc 38) (.cons (.loc 35) (.cons (.call 55 (.cons (.loc 27) .nil)) .nil)))))) (.cons (.try (.cons (.ret (.b .eqd (.call 52 (.cons (.call 18 (.cons (.loc 25) (.cons (.loc 31) (.cons (.loc 38) (.cons (.loc 35) (.cons (.loc 27) .nil)))))) .nil)) (.loc 69))) .nil) (.cons (.ret (.u .isN (.loc 69))) .nil)) .nil)) ρ K σ := by
  have hx := T.xs
  have hxl := xv_len (w := w)
  have hxy : w.ys.length = w.xs.length := by rw [← he, hxl]
  have hv : vs.length ≤ 3 := V.length.symm ▸ hd
  refine ⟨_, r64, _, r38, _, r35, _, r27, evs_nil <| made_ok O L (by lia) V fun σ₁ us a G U ha => ?_⟩
  have G₁ := G.trans (G.ok.new ha (.list us))
  refine evs_nil <| spliced_ok G₁.ok (by lia) (G.ok.newAt ha rfl) (U.mono fun Ω Ω h => h.st (G.ok.new ha (.list us)).st) (by lia) (fun e => ?_) fun σ₂ ts b p c h1 h2 h3 G₂ B R => ?_
  · exact ⟨_, (if_neg (by decide)).trans r25, _, (if_neg (by decide)).trans r31, _, (if_neg (by decide)).trans r38, _, (if_neg (by decide)).trans r35, _, (if_neg (by decide)).trans r27, evs_nil <| splice_ok G₁.ok N T.small (G₁.st.at_ _ _ L) (V.mono fun Ω Ω h => h.st G₁.st) (by lia) (lim_of hv rfl)
      (fun Ω => ⟨_, if_pos rfl, isN_t (q w _ ⟨G₁, N, he, by lia, .inl (by lia)⟩)⟩) fun w' σ' us a b c h1 Ω Ω Ω Ω Ω => by rw [hxy] at e; rw [e] at h1; cases h1⟩
  · have Gw := G₁.trans G₂
    refine ⟨_, (if_neg (by decide)).trans r25, _, (if_neg (by decide)).trans r31, _, (if_neg (by decide)).trans r38, _, (if_neg (by decide)).trans r35, _, (if_neg (by decide)).trans r27, evs_nil <| splice_ok Gw.ok (nice_ys N) (tiny_ys T).small (Gw.st.at_ _ _ L) (V.mono fun Ω Ω h => h.st Gw.st) (by lia) (lim_of hv rfl)
      (fun e => ?_) fun w' σ' us' a' b' c' h1' h2' h3' V' P ha' => ?_⟩
    · have e : spB w.xs.length i = none := e
      rw [← hxy, h1] at e; cases e
    · have h1' : spB w.xs.length i = some (b' : Int) := h1'
      have h2' : spC w.xs.length b' len = c' := h2'
      have eb : b' = p := by rw [← hxy, h1] at h1'; injection h1' with e; lia
      subst eb
      have ec : c' = c := by rw [← hxy, h2] at h2'; lia
      subst ec
      have P' := P.to (Y := w.ys.take b' ++ ds.map some ++ w.ys.drop (b' + c')) (by show (xv w).take _ ++ _ ++ (xv w).drop _ = _; rw [he])
      have V' : All2 (Vl F w' σ') us' (((w.ys.drop b').take c').map od) := by have : xv w = w.ys := he; rw [← this]; exact V'
      obtain ⟨G₃, W⟩ := LV.new P.go.ok V' ha'
      refine evs_nil <| allV G₃.ok W (by rw [List.length_map, List.length_take, List.length_drop]; lia) fun σ₄ us₄ c₄ G₄ P₄ => ?_
      have G₅ := G₃.trans G₄
      have G₆ := P.go.trans G₅
      have D := Gw.ysOp P' (k := 6) (Int.le_trans (pot_le (k := 3) (he ▸ (ho_cut (ds := ds) h3).1) hd) (Int.add_le_add_left (by decide) _)) (by have := (ho_cut (ds := ds) h3).2; exact .inl (by lia))
      exact ⟨_, if_pos rfl, eqd_lists P₄.at_.at_ (G₆.st.at_ _ _ B).at_ P₄.tl (R.mono fun Ω Ω h => h.st G₆.st) (q _ _ ⟨D.go.trans G₅, D.nice, D.eq, D.pot, D.len⟩)⟩
theorem delete_deed (O : Ok F w σ) (N : Nice w) (T : Tiny w) (he : xv w = w.ys) {i : Int} (r25 : ρ 25 = some (.ref F.ct)) (r31 : ρ 31 = some (.ref F.arr)) (r64 : ρ 64 = some (.ref F.C)) (r38 : ρ 38 = some (.int i)) (q : ∀ w' σ', Deed F w σ w' σ' 6 → Q (.bool true) σ') :
    ev (callF fi (n+5)) (.b .eqd (.call 51 (.cons (.call 23 (.cons (.loc 25) (.cons (.loc 31) (.cons (.loc 38) .nil)))) .nil)) (.call 59 (.cons (.loc 64) (.cons (.loc 38) .nil)))) ρ Q E σ := by
  have hx := T.xs
  have hxl := xv_len (w := w)
  refine ⟨_, r25, _, r31, _, r38, evs_nil <| delete_ok O N T fun w₁ σ₁ v V P => evs_nil <| told_ok P.go.ok V fun σ₂ u G Tu => ⟨_, r64, _, r38, evs_nil <| deleted_ok G.ok (by rw [P.ys, ← he, hxl]; exact hx) fun σ₃ u' G' Tu' => ?_⟩⟩
  rw [P.ys, ← he] at G' Tu'
  refine eqd_told (Tu.st G'.st) Tu' (q _ _ ⟨P.go.trans (G.trans G'), nice_ys P.nice, P.xv, ?_, ?_⟩)
  · show w₁.last + ((ho (xv w₁) - 6 : Nat) : Int) ≤ _
    rw [P.xv, P.last]; exact pot_w (pot_d (k := 6) (Nat.le_trans ho_del (Nat.add_le_add_left (by decide) _)))
  · have := del_len (l := xv w) (i := i)
    show w₁.xs.length ≤ _ ∨ _; rw [P.len]; exact .inl (by lia)
theorem cells_all (O : Ok F w σ) {us : List AV} {X : List (Option D)} {a : Nat} (ha : σ a = none) (U : All2 (Cl F w σ) us X) (hX : X.length ≤ 100) (hy : w.ys.length ≤ 100) {P : AH → Prop} (q : ∀ σ', Go F w σ (w.ysTo X) σ' → P σ') :
    SetSS (.ref F.C) (.ref a) .none .none P (σ.put a (.list us)) := by
  have G := O.new ha (.list us)
  obtain ⟨cs, hC, A⟩ := G.ok.C
  have hl := A.length
  have hu := U.length
  have ne : a ≠ F.C := fun e => by obtain ⟨cs₀, h₀, _⟩ := O.C; rw [e, h₀] at ha; cases ha
  exact ⟨F.C, a, cs, us, 0, cs.length, rfl, rfl, ne, hC, put_eq, by first | exact lim_of (by assumption) (by rfl) | (show _ ≤ 10000; lia), rfl, rfl, by
    rw [setCut_all]; exact q _ (G.trans (G.ok.setCells (U.mono fun Ω Ω h => h.st G.st)))⟩
theorem fill_deed (O : Ok F w σ) (N : Nice w) (T : Tiny w) (he : xv w = w.ys) {l : Nat} {vs : List AV} {ds : List D} (L : At_ F w σ l (.list vs)) (V : All2 (Vl F w σ) vs ds) (hd : ds.length ≤ 3)
    (r25 : ρ 25 = some (.ref F.ct)) (r31 : ρ 31 = some (.ref F.arr)) (r64 : ρ 64 = some (.ref F.C)) (r27 : ρ 27 = some (.ref l)) (q : ∀ w' σ', Deed F w σ w' σ' 6 → K.ret (.bool true) σ') :
    exs (callF fi (n+6)) (.cons (.setS (.loc 64) .absent .absent (.call 55 (.cons (.loc 27) .nil))) (.cons (.expr (.call 26 (.cons (.loc 25) (.cons (.loc 31) (.cons (.loc 27) .nil))))) (.cons (.ret (.bool true)) .nil))) ρ K σ := by
  have hx := T.xs
  have hxl := xv_len (w := w)
  have hv : vs.length ≤ 3 := V.length.symm ▸ hd
  refine ⟨_, r27, evs_nil <| made_ok O L (by lia) V fun σ₁ us a G U ha => ⟨_, r64, cells_all G.ok ha U (by rw [List.length_map]; lia) (by rw [← he, hxl]; exact hx) fun σ₂ G₂ => ?_⟩⟩
  have Gw := G.trans G₂
  exact ⟨_, r25, _, r31, _, r27, evs_nil <| fill_ok Gw.ok (nice_ys N) (tiny_ys T).small (Gw.st.at_ _ _ L) (V.mono fun Ω Ω h => h.st Gw.st) (by lia) (lim_of hv rfl) fun w' σ' P => q _ _ (Gw.ysOp P (by rw [ho_somes]; lia) (.inr (by rw [List.length_map]; lia)))⟩
theorem clear_deed (O : Ok F w σ) (N : Nice w) (T : Tiny w) (he : xv w = w.ys) (r25 : ρ 25 = some (.ref F.ct)) (r31 : ρ 31 = some (.ref F.arr)) (r64 : ρ 64 = some (.ref F.C)) (q : ∀ w' σ', Deed F w σ w' σ' 6 → K.ret (.bool true) σ') :
    exs (callF fi (n+5)) (.cons (.setS (.loc 64) .absent .absent (.list .nil)) (.cons (.expr (.call 25 (.cons (.loc 25) (.cons (.loc 31) .nil)))) (.cons (.ret (.bool true)) .nil))) ρ K σ := by
  have hx := T.xs
  have hl := T.last
  have hxl := xv_len (w := w)
  refine ⟨Nat.zero_le _, fun a ha => ⟨_, r64, cells_all O ha .nil (Nat.zero_le _) (by rw [← he, hxl]; exact hx) fun σ₂ G => ?_⟩⟩
  refine ⟨_, r25, _, r31, evs_nil <| clear_ok (l := []) G.ok (by rw [List.append_nil]; exact N.full) N.zp N.h3 (by show w.xs.length ≤ 1000; lia) (by show w.last ≤ 2000; lia) fun w' σ' G' h1 h2 h3 h4 h5 h6 => q w' σ' ⟨G.trans G', ⟨?_, h3, h4.trans N.pd, by rw [h6]; exact N.h3⟩, ?_, ?_, ?_⟩⟩
  · rw [h1, h2]; exact .refl _
  · rw [xv, h1, h5]; rfl
  · unfold pot; rw [xv, h1, h6]; show w.last + ((0 : Nat) : Int) ≤ _; lia
  · rw [h1]; exact .inr (Nat.zero_le _)
theorem anew_go (O : Ok F w σ) {cs : List AV} (hC : σ F.C = some (.list cs)) (A : All2 (Cl F w σ) cs w.ys) (q : ∀ σ' us a, Go F w σ w σ' → All2 (Cl F w σ') us (w.ys.map fun o => some (od o)) → σ' a = none → Q (.ref a) (σ'.put a (.list us))) :
    compL (fun v Q E σ => ev (callF fi (n+1)) (.list (.cons (.call 56 (.cons (.loc 63) .nil)) .nil)) (ρ.put 63 v) Q E σ) F.C cs Q E cs [] σ := by
  refine comp_ind (fun r ys σ' => Go F w σ w σ' ∧ σ' F.C = some (.list cs) ∧ ∃ d₁ d₂, w.ys = d₁ ++ d₂ ∧ All2 (Cl F w σ') r d₂ ∧ All2 (Cl F w σ') ys (d₁.map fun o => some (od o))) ?_ ?_ ?_ ⟨.refl O, hC, [], w.ys, rfl, A, .nil⟩
  · rintro v r ys σ₁ ⟨G, h, d₁, d₂, e, R, B⟩ Q' k
    cases R with
    | @cons _ d _ d₃ C R => exact ⟨_, if_pos rfl, evs_nil <| of_ok C fun u T => ⟨Nat.le_of_ble_eq_true rfl, fun c hc => by
        have G₂ := G.ok.new hc (.list [u])
        exact k _ _ ⟨G.trans G₂, put_new hc h, d₁ ++ [d], d₃, by rw [e, List.append_assoc]; rfl, R.mono fun Ω Ω h => h.st G₂.st, by rw [List.map_append]; exact (B.mono fun Ω Ω h => h.st G₂.st).append (.cons (.some (G.ok.newAt hc rfl) (T.st G₂.st)) .nil)⟩⟩⟩
  · rintro r ys σ₁ ⟨G, h, _⟩; exact h
  · rintro ys σ₁ ⟨G, h, d₁, d₂, e, R, B⟩ a ha
    cases R
    rw [List.append_nil] at e
    exact q _ _ _ G (e ▸ B) ha
theorem holes_deed (O : Ok F w σ) (N : Nice w) (T : Tiny w) (hw : w.last + w.xs.length ≤ 200) (he : xv w = w.ys) (r25 : ρ 25 = some (.ref F.ct)) (r31 : ρ 31 = some (.ref F.arr)) (r64 : ρ 64 = some (.ref F.C)) (q : ∀ w' σ', Deed F w σ w' σ' 6 → K.ret (.bool true) σ') :
    exs (callF fi (n+5)) (.cons (.setS (.loc 64) .absent .absent (.comp (.list (.cons (.call 56 (.cons (.loc 63) .nil)) .nil)) 63 [] (.loc 64))) (.cons (.ret (.b .eqd (.comp (.u (.attr 0) (.loc 59)) 59 [] (.call 28 (.cons (.loc 25) (.cons (.loc 31) .nil)))) (.comp (.u (.attr 0) (.loc 59)) 59 [] (.u (.attr 8) (.loc 31))))) .nil)) ρ K σ := by
  have hx := T.xs
  have hxl := xv_len (w := w)
  have hy : w.ys.length ≤ 100 := by rw [← he, hxl]; exact hx
  obtain ⟨cs, hC, A⟩ := O.C
  refine ⟨_, r64, F.C, cs, rfl, hC, lim_of (m := 100) (A.length ▸ hy) rfl, anew_go O hC A fun σ₁ us a G U ha => ⟨_, r64, cells_all G.ok ha U (by rw [List.length_map]; exact hy) hy fun σ₂ G₂ => ?_⟩⟩
  have Gw := G.trans G₂
  refine ⟨_, r25, _, r31, evs_nil <| array_scalars_ok Gw.ok (nice_ys N) hx hw fun w' σ' m ss b hm hss P hb => ?_⟩
  have hm : ((xv w).map fun o => some (od o)).length = som (xv w) + m := hm
  have P := P.to (Y := w.ys.map fun o => some (od o)) (by show (xv w).map _ = _; rw [he])
  have hla : w'.last = w.last + (m : Nat) := P.last
  have hpl := P.len
  rw [hss, List.length_map, List.length_map] at hpl
  have hos := ho_som (xv w)
  rw [List.length_map, hxl] at hm
  rw [hxl] at hos
  have hyx : w.ys.length = w.xs.length := by rw [← he, hxl]
  have hos2 : ho (w.ys.map fun o => some (od o)) = 0 := by
    have : (w.ys.map fun o => some (od o)) = (w.ys.map od).map some := by rw [List.map_map]; rfl
    rw [this]; exact ho_somes
  have S' : Small w' := ⟨by rw [hss, List.length_map]; lia, by lia⟩
  have hmem : ∀ s ∈ ss, some s ∈ w'.xs := fun s h => hss ▸ List.mem_map_of_mem h
  have G₃ := P.go.ok.new hb (.list (ss.map Sc.v))
  have B := P.go.ok.newAt hb (show imm (.list (ss.map Sc.v)) = true from rfl)
  refine ⟨b, _, rfl, put_eq, by rw [List.length_map]; first | exact lim_of (by assumption) (by rfl) | (show _ ≤ 10000; lia), nums_go G₃.ok P.nice hmem (fun σ₁ G => (G.st.at_ _ _ B).at_) fun σ₄ ts c G₄ R hc => ?_⟩
  obtain ⟨G₅, L⟩ := LT.new G₄.ok R hc
  obtain ⟨wk, hA⟩ := G₅.ok.arr
  have hI : ∀ {σ₁}, Go F w' (σ₄.put c (.list ts)) w' σ₁ → σ₁ w'.I = some (.list (ss.map Sc.v)) := fun G => by have := G.ok.I; rw [hss, it_some] at this; exact this
  refine ⟨_, r31, _, _, _, _, rfl, hA, rfl, w'.I, _, rfl, hI (.refl G₅.ok), by rw [List.length_map]; first | exact lim_of (by assumption) (by rfl) | (show _ ≤ 10000; lia), nums_go G₅.ok P.nice hmem (fun σ₁ G => hI G) fun σ₆ ts' d G₆ R' hd => ?_⟩
  obtain ⟨G₇, L'⟩ := LT.new G₆.ok R' hd
  have G₈ := G₃.trans (G₄.trans (G₅.trans (G₆.trans G₇)))
  have D := Gw.ysOp P (k := 6) (by rw [hos2]; lia) (.inl (by rw [List.length_map]; lia))
  exact eqdL (L.st (G₆.trans G₇)) L' (q _ _ ⟨D.go.trans G₈, D.nice, D.eq, D.pot, D.len⟩)
end
end
section
set_option tactic.hygienic false
open PySem PySem.W
section
variable {F : Fx} {w w' w'' : Wd} {σ σ' σ'' : AH} {Q : AV → AH → Prop} {E : EX} {n : Nat} {ρ : Loc} {K : Ks}
theorem mod_int {i m : Int} (h : 0 < m) : 0 ≤ AOp.mod.on i m ∧ AOp.mod.on i m < m := by obtain ⟨k, e, h2⟩ := mod_nat (i := i) h; rw [e]; exact ⟨Int.natCast_nonneg k, h2⟩
theorem div_ok {i j : Int} (h : j ≠ 0) (h2 : Nat.blt j.natAbs 1073741824 = true) : AOp.div.ok i j := ⟨h, Nat.le_of_ble_eq_true h2⟩
theorem idx_go (O : Ok F w σ) {i : Int} (r60 : ρ 60 = some (.int i)) (q : ∀ (is : List Int) a, is.length ≤ 3 → σ a = none → Q (.ref a) (σ.put a (.list (is.map AV.int)))) :
    ev (callF fi n) (.compR (.b (.ar .sub) (.b (.ar .mod) (.b (.ar .div) (.b (.ar .div) (.loc 60) (.int 15)) (.b (.ar .pow) (.int 5) (.loc 62))) (.int 17)) (.int 8)) 62 [60] (.b (.ar .mod) (.b (.ar .div) (.loc 60) (.int 60)) (.int 4))) ρ Q E σ := by
  obtain ⟨K, eK, hK⟩ := mod_nat (i := AOp.div.on i 60) (m := 4) (by decide)
  refine ⟨_, r60, _, _, rfl, rfl, div_ok (by decide) rfl, _, _, rfl, rfl, (by decide : (4 : Int) ≠ 0), ?_⟩
  rw [eK]
  refine ⟨_, rfl, by show -((10000 : Nat) : Int) ≤ _; lia, by show _ ≤ ((10000 : Nat) : Int); lia, ?_⟩
  rw [intsR_range]
  refine compN_ind (fun r ys σ' => σ' = σ ∧ ∃ (j d : Nat) (is : List Int), r = (List.range' j d).map (fun (k : Nat) => AV.int (k : Int)) ∧ j + d = K ∧ is.length = j ∧ ys = is.map AV.int) ?_ ?_ ⟨rfl, 0, K, [], rfl, Nat.zero_add _, rfl, rfl⟩
  · rintro v r ys _ ⟨rfl, j, d, is, e1, e2, e3, rfl⟩ Q' k
    cases d with
    | zero => cases e1
    | succ d =>
      cases e1
      have hj : j = 0 ∨ j = 1 ∨ j = 2 := by lia
      have h5 : (5 : Int) ^ ((j : Nat) : Int).toNat ≠ 0 ∧ ((5 : Int) ^ ((j : Nat) : Int).toNat).natAbs < 1073741824 := by
        rcases hj with e | e | e <;> subst e <;> exact ⟨by decide, by decide⟩
      exact ⟨_, (if_neg (by decide)).trans ((if_pos (show 60 ∈ [60] by decide)).trans r60), _, _, rfl, rfl, div_ok (by decide) rfl, _, if_pos rfl, _, _, rfl, rfl, ⟨by lia, by lia, by decide⟩, _, _, rfl, rfl, h5, _, _, rfl, rfl, (by decide : (17 : Int) ≠ 0), _, _, rfl, rfl, trivial,
        k _ _ ⟨rfl, j + 1, d, is ++ [_], rfl, by lia, by rw [List.length_append, e3]; rfl, by rw [List.map_append]; rfl⟩⟩
  · rintro ys _ ⟨rfl, j, d, is, e1, e2, e3, rfl⟩ a ha
    exact q is a (by lia) ha
noncomputable def lens : List (Option Int) := [none, some 2, some (-1), some 0, some 1, some (-3)]
theorem len_go (O : Ok F w σ) {i : Int} (r60 : ρ 60 = some (.int i)) (q : ∀ (len : Option Int) σ', Go F w σ w σ' → Q (oI len) σ') :
    ev (callF fi n) (.b .idx (.list (.cons .none (.cons (.int 2) (.cons (.u .neg (.int 1)) (.cons (.int 0) (.cons (.int 1) (.cons (.u .neg (.int 3)) .nil))))))) (.b (.ar .mod) (.b (.ar .div) (.loc 60) (.int 300)) (.int 6))) ρ Q E σ := by
  obtain ⟨K, eK, hK⟩ := mod_nat (i := AOp.div.on i 300) (m := 6) (by decide)
  refine ⟨_, rfl, _, rfl, Nat.le_of_ble_eq_true rfl, fun a ha => ⟨_, r60, _, _, rfl, rfl, div_ok (by decide) rfl, _, _, rfl, rfl, (by decide : (6 : Int) ≠ 0), ?_⟩⟩
  have e : ∀ k < 6, ([AV.none, .int 2, .int (-1), .int 0, .int 1, .int (-3)])[k]? = some (oI (lens.getD k none)) := by
    intro k hk
    match k, hk with
    | 0, _ | 1, _ | 2, _ | 3, _ | 4, _ | 5, _ => rfl
  rw [eK]
  exact ⟨a, K, _, K, _, rfl, rfl, put_eq, Nat.le_of_ble_eq_true rfl, place_nat (by show K < 6; lia), e K (by lia), q _ _ (O.new ha _)⟩
theorem done_ok (O : Ok F w σ) (N : Nice w) (hx : w.xs.length ≤ 90) (hw : w.last ≤ 100) (he : xv w = w.ys) {T : Nat} (hT : At_ F w σ T (.list [.ref F.t0, .ref F.t1])) {i : Int} (q3 : AOp.mod.on i 15 < 4 → ∀ w' σ', Deed F w σ w' σ' 3 → Q (.bool true) σ')
    (q6 : ¬ AOp.mod.on i 15 < 4 → ∀ w' σ', Deed F w σ w' σ' 6 → Q (.bool true) σ') : callF fi (n+9) 66 [.ref F.ct, .ref F.arr, .ref F.C, .int i, .ref T] Q E σ := by
  have hm := mod_int (i := i) (m := 15) (by decide)
  have hk := mod_int (i := AOp.div.on i 15) (m := 19) (by decide)
  have T' : Tiny w := ⟨by lia, by lia⟩
  refine ⟨_, _, rfl, rfl, _, rfl, _, _, rfl, rfl, (by decide : (15 : Int) ≠ 0), _, rfl, _, _, rfl, rfl, div_ok (by decide) rfl, _, _, rfl, rfl, (by decide : (19 : Int) ≠ 0), _, _, rfl, rfl, trivial, ?_⟩
  generalize AOp.mod.on i 15 = way at hm q3 q6 ⊢
  generalize AOp.mod.on (AOp.div.on i 15) 19 = k₀ at hk ⊢
  refine ⟨_, rfl, _, _, rfl, rfl, div_ok (by decide) rfl, _, rfl, evs_nil <| values_ok O hT fun σ₁ vs ds f G₁ V hd hf => evs_nil ⟨_, rfl, ?_⟩⟩
  obtain ⟨G₂, B⟩ := LV.new G₁.ok V hf
  refine idx_go G₂.ok rfl fun is l hi hl => ?_
  have G := G₁.trans (G₂.trans (G₂.ok.new hl (.list (is.map AV.int))))
  have L := G₂.ok.newAt hl (show imm (.list (is.map AV.int)) = true from rfl)
  have W := B.st (G₂.ok.new hl (.list (is.map AV.int)))
  have D : ∀ {k : Int} {w' : Wd} {σ' : AH}, Deed F w _ w' σ' k → Deed F w σ w' σ' k := fun D => ⟨G.trans D.go, D.nice, D.eq, D.pot, D.len⟩
  refine ⟨_, rfl, _, _, rfl, rfl, _, rfl, fun c => ?_, fun c => ?_⟩
  · have c : way < 4 := of_decide_eq_true c
    exact ⟨_, rfl, _, rfl, _, rfl, _, rfl, _, rfl, evs_nil <| ends_deed G.ok N T' he W.at_ W.vl hd (by lia) fun w' σ' d => q3 c w' σ' (D d)⟩
  have c₀ : ¬ way < 4 := of_decide_eq_false c
  have q6 := fun w' σ' d => q6 c₀ w' σ' (D d)
  refine ⟨_, rfl, _, _, rfl, rfl, _, rfl, fun c => ?_, fun c => ?_⟩
  · exact len_go G.ok rfl fun len σ' G' => splice_deed G'.ok N T' he (W.st G').at_ (W.st G').vl hd rfl rfl rfl rfl rfl rfl fun w' σ₂ d => q6 w' σ₂ ⟨G'.trans d.go, d.nice, d.eq, d.pot, d.len⟩
  have c₁ : ¬ way < 6 := of_decide_eq_false c
  refine ⟨_, rfl, _, _, rfl, rfl, _, rfl, fun c => ?_, fun c => ?_⟩
  · exact ⟨_, rfl, _, rfl, _, rfl, _, rfl, _, rfl, _, _, rfl, rfl, div_ok (by decide) rfl, _, rfl, evs_nil <| value_ok G.ok (G.st.at_ _ _ hT) fun σ' v d G' V' => evs_nil <| element_deed G'.ok N T' he V' fun w' σ₂ d => q6 w' σ₂ ⟨G'.trans d.go, d.nice, d.eq, d.pot, d.len⟩⟩
  have c₂ : ¬ way = 6 := of_decide_eq_false c
  refine ⟨_, rfl, _, _, rfl, rfl, _, rfl, fun c => delete_deed G.ok N T' he rfl rfl rfl rfl q6, fun c => ?_⟩
  have c₃ : ¬ way = 7 := of_decide_eq_false c
  refine ⟨_, rfl, _, _, rfl, rfl, _, rfl, fun c => ?_, fun c => ?_⟩
  · exact ⟨_, rfl, _, rfl, _, rfl, _, rfl, _, _, rfl, rfl, trivial, evs_nil <| resized_deed G.ok N T' he q6⟩
  have c₄ : ¬ way = 8 := of_decide_eq_false c
  refine ⟨_, rfl, _, _, rfl, rfl, _, rfl, fun c => ?_, fun c => ?_⟩
  · have c : way < 12 := of_decide_eq_true c
    refine ⟨_, rfl, _, rfl, _, rfl, _, rfl, _, rfl, _, rfl, evs_nil ?_⟩
    have : way = 9 ∨ way = 10 ∨ way = 11 := by lia
    rcases this with e | e | e
    · rw [e]; exact slices9 G.ok N T' he L hi q6
    · rw [e]; exact slices10 G.ok N T' he L hi q6
    · rw [e]; exact slices11 G.ok N T' he L hi hx (by lia) W.at_ W.vl hd q6
  refine ⟨_, rfl, _, _, rfl, rfl, _, rfl, fun c => fill_deed G.ok N T' he W.at_ W.vl hd rfl rfl rfl rfl q6, fun c => ?_⟩
  refine ⟨_, rfl, _, _, rfl, rfl, _, rfl, fun c => ?_, fun c => ?_⟩
  · refine if_f rfl ⟨_, rfl, _, _, rfl, rfl, _, rfl, fun c' => (nomatch c.symm.trans c'), fun Ω => ?_⟩
    exact ⟨_, rfl, _, rfl, _, rfl, _, rfl, evs_nil <| lists_ok G.ok N T' he L hi (by show -20 ≤ k₀ - 6; lia) (by show k₀ - 6 ≤ 20; lia) fun σ' G' => q6 w σ' ⟨G', N, he, by lia, .inl (by lia)⟩⟩
  · refine ⟨_, rfl, _, _, rfl, rfl, div_ok (by decide) rfl, _, _, rfl, rfl, (by decide : (3 : Int) ≠ 0), _, _, rfl, rfl, _, rfl, fun Ω => if_f rfl ?_, fun Ω => if_t rfl (clear_deed G.ok N T' he rfl rfl rfl q6)⟩
    exact ⟨_, rfl, _, _, rfl, rfl, _, rfl, fun Ω => holes_deed G.ok N T' (by lia) he rfl rfl rfl q6, fun c' => (nomatch c.symm.trans c')⟩
end
end
section
set_option tactic.hygienic false
open PySem PySem.W
noncomputable def Ext (σ σ' : AH) : Prop := ∀ x o, σ x = some o → σ' x = some o
noncomputable def ExtBut (a : Nat) (σ σ' : AH) : Prop := ∀ x o, σ x = some o → x ≠ a → σ' x = some o
section
variable {σ σ' σ'' : AH} {Q : AV → AH → Prop} {E : EX} {n : Nat} {ρ : Loc} {K : Ks}
theorem Ext.put {a : Nat} {o : AO} (h : σ a = none) : Ext σ (σ.put a o) := fun x y e => put_new h e
theorem Ext.trans (X : Ext σ σ') (Y : Ext σ' σ'') : Ext σ σ'' := fun x o h => Y x o (X x o h)
theorem Ext.on {a : Nat} {o : AO} (X : Ext σ σ') (h : σ a = none) : Ext σ (σ'.put a o) := fun x y e => (put_ne fun z => by rw [z, h] at e; cases e).trans (X x y e)
theorem Ext.none (X : Ext σ σ') {a : Nat} (h : σ' a = Option.none) : σ a = Option.none := by
  cases e : σ a with
  | none => rfl
  | some o => rw [X _ _ e] at h; cases h
theorem ne_of_new {a b : Nat} {o : AO} (h : σ a = some o) (k : σ b = none) : a ≠ b := fun e => by rw [e, k] at h; cases h
theorem limits_ok {a : Nat} (h : σ a = some (.inst 581 [])) (q : ∀ o, Q .none (σ.put a o)) : callF fi (n+1) 50 [.ref a] Q E σ :=
  ⟨_, _, rfl, rfl, _, rfl, _, rfl, _, _, _, rfl, h, Nat.le_of_ble_eq_true rfl, _, rfl, _, rfl, _, _, _, rfl, put_eq, Nat.le_of_ble_eq_true rfl, _, rfl, _, rfl, _, _, _, rfl, put_eq, Nat.le_of_ble_eq_true rfl, _, rfl, _, rfl, _, _, _, rfl, put_eq, Nat.le_of_ble_eq_true rfl,
    _, rfl, _, rfl, _, _, _, rfl, put_eq, Nat.le_of_ble_eq_true rfl, by rw [aput_put, aput_put, aput_put, aput_put]; exact q _⟩
theorem heap_ok {a : Nat} {lm : AV} (h : σ a = some (.inst 218 [])) (q : ∀ z σ', σ z = none → z ≠ a → σ' = (σ.put z (.list [])).put a (.inst 218 (hpF lm 0 z)) → Q .none σ') : callF fi (n+1) 4 [.ref a, lm] Q E σ :=
  ⟨_, _, rfl, rfl, _, rfl, _, rfl, _, _, _, rfl, h, Nat.le_of_ble_eq_true rfl, _, rfl, _, _, _, rfl, put_eq, Nat.le_of_ble_eq_true rfl, Nat.zero_le _, fun z hz =>
    have hz : σ z = none ∧ z ≠ a := by
      rw [aput_put] at hz
      have ne : z ≠ a := fun e => by rw [e, put_eq] at hz; cases hz
      rw [put_ne ne] at hz; exact ⟨hz, ne⟩
    ⟨_, rfl, _, _, _, rfl, (put_ne hz.2.symm).trans put_eq, Nat.le_of_ble_eq_true rfl, q z _ hz.1 hz.2 (by rw [aput_put, aput_comm hz.2, aput_put]; rfl)⟩⟩
theorem counter_ok {a hp : Nat} (h : σ a = some (.inst 559 [])) (q : ∀ p σ', σ p = none → p ≠ a → σ' = (σ.put p (.dict [])).put a (.inst 559 [(15, .ref hp), (16, .none), (17, .ref p)]) → Q .none σ') : callF fi (n+1) 39 [.ref a, .ref hp, .none] Q E σ :=
  ⟨_, _, rfl, rfl, _, rfl, _, rfl, _, _, _, rfl, h, Nat.le_of_ble_eq_true rfl, _, rfl, _, rfl, _, _, _, rfl, put_eq, Nat.le_of_ble_eq_true rfl, fun z hz =>
    have hz : σ z = none ∧ z ≠ a := by
      rw [aput_put] at hz
      have ne : z ≠ a := fun e => by rw [e, put_eq] at hz; cases hz
      rw [put_ne ne] at hz; exact ⟨hz, ne⟩
    ⟨_, rfl, _, _, _, rfl, (put_ne hz.2.symm).trans put_eq, Nat.le_of_ble_eq_true rfl, q z _ hz.1 hz.2 (by rw [aput_put, aput_comm hz.2, aput_put]; rfl)⟩⟩
theorem evs_none {Φ : Nat → List AV → PT} {Q : List AV → AH → Prop} {E : EX} (h : Q [.none] σ) : evs Φ (.cons .none .nil) ρ Q E σ := h
theorem init1 (q : ∀ σ' hp lm z, Ext σ σ' → σ' hp = some (.inst 218 (hpF lm 0 z)) → σ' z = some (.list []) → σ z = none → K.next (ρ.put 15 (.ref hp)) σ') :
    ex (callF fi (n+1)) (.assign 15 (.cls 218 4 (.cons (.cls 581 50 .nil) .nil))) ρ K σ :=
  fun a ha => limits_ok put_eq fun o => ⟨rfl, fun b hb => heap_ok put_eq fun z σ' hz ne e => ⟨rfl, by
    have X₀ : Ext σ ((σ.put a (.inst 581 [])).put a o) := (Ext.put ha).on ha
    have X : Ext σ (((σ.put a (.inst 581 [])).put a o).put b (.inst 218 [])) := X₀.trans (.put hb)
    have Y : Ext σ σ' := fun x y h => by rw [e, put_ne (ne_of_new (X₀ x y h) hb)]; exact put_new hz (X x y h)
    exact q σ' b _ z Y (by rw [e]; exact put_eq) (by rw [e, put_ne ne]; exact put_eq) (X.none hz)⟩⟩
theorem init2 {hp : Nat} (r15 : ρ 15 = some (.ref hp)) (q : ∀ σ' ct p, Ext σ σ' → σ' ct = some (.inst 559 [(15, .ref hp), (16, .none), (17, .ref p)]) → σ' p = some (.dict []) → K.next (ρ.put 25 (.ref ct)) σ') :
    ex (callF fi (n+1)) (.assign 25 (.cls 559 39 (.cons (.loc 15) (.cons .none .nil)))) ρ K σ :=
  ⟨_, r15, evs_none fun a ha => counter_ok put_eq fun p σ' hp ne e => ⟨rfl, q σ' a p (fun x y h => by rw [e, put_ne (ne_of_new h ha)]; exact put_new hp (put_new ha h)) (by rw [e]; exact put_eq) (by rw [e, put_ne ne]; exact put_eq)⟩⟩
theorem mk_scalar {a : Nat} {lm : AV} {l : Int} {z : Nat} {v : AV} (h : σ a = some (.inst 218 (hpF lm l z))) (q : ∀ σ' s wk, ExtBut a σ σ' → σ' a = some (.inst 218 (hpF lm (l + 1) z)) → σ' s = some (.inst 59 (scF (l + 1) 0 wk v)) → Q (.ref s) σ') : callF fi (n+3) 6 [.ref a, v] Q E σ :=
  new_scalar h rfl rfl (Nat.le_of_ble_eq_true rfl) fun s b hs hb ne => by
    have na : ∀ {x}, (σ.put a (.inst 218 (setF (hpF lm l z) 13 (.int (l + 1))))) x = none → σ x = none ∧ a ≠ x := fun {x} e => by
      have n : x ≠ a := fun z => by rw [z, put_eq] at e; cases e
      rw [put_ne n] at e; exact ⟨e, n.symm⟩
    refine q _ s b (fun x y e n => ?_) ?_ put_eq
    · rw [put_ne (ne_of_new e (na hs).1), put_ne (ne_of_new e (na hb).1), put_ne n]; exact e
    · rw [put_ne (na hs).2, put_ne (na hb).2]; exact put_eq
theorem mk_array {a : Nat} {lm : AV} {l : Int} {z : Nat} (h : σ a = some (.inst 218 (hpF lm l z))) (q : ∀ σ' s wk J, ExtBut a σ σ' → σ' a = some (.inst 218 (hpF lm (l + 1) z)) → σ' s = some (.inst 78 (arF (l + 1) 0 wk J)) → σ' J = some (.list []) → σ J = none → Q (.ref s) σ') : callF fi (n+3) 7 [.ref a] Q E σ :=
  new_array h rfl rfl (Nat.le_of_ble_eq_true rfl) fun s b c σ' hs e hb nb hc nc => by
    have na : ∀ {x}, (σ.put a (.inst 218 (setF (hpF lm l z) 13 (.int (l + 1))))) x = none → σ x = none ∧ a ≠ x := fun {x} e => by
      have n : x ≠ a := fun z => by rw [z, put_eq] at e; cases e
      rw [put_ne n] at e; exact ⟨e, n.symm⟩
    have hc' : (σ.put a (.inst 218 (setF (hpF lm l z) 13 (.int (l + 1))))) c = none := (Ext.put hb).none hc
    refine q σ' s b c (fun x y k n => ?_) ?_ ?_ ?_ (na hc').1
    · rw [e, put_ne (ne_of_new k (na hs).1), put_ne (ne_of_new k (na hc').1), put_ne (ne_of_new k (na hb).1), put_ne n]; exact k
    · rw [e, put_ne (na hs).2, put_ne (na hc').2, put_ne (na hb).2]; exact put_eq
    · rw [e]; exact put_eq
    · rw [e, put_ne nc]; exact put_eq
end
end
section
set_option tactic.hygienic false
open PySem PySem.W
section
variable {F : Fx} {w w' w'' : Wd} {σ σ' σ'' : AH} {Q : AV → AH → Prop} {E : EX} {n : Nat} {ρ : Loc} {K : Ks}
theorem ned_bool {b : Bool} (q : Q (.bool false) σ) : sem2 .ned (.bool b) (.bool b) Q σ := ⟨.bool b, .bool b, .bool b, .bool b, shaped1 rfl (Nat.zero_le _), shaped1 rfl (Nat.zero_le _), by rw [SeqAt.eqv_refl _ rfl]; exact q⟩
theorem place_turn (O : Ok F w σ) (N : Nice w) (T : Tiny w) (he : xv w = w.ys) {j : Int} (r31 : ρ 31 = some (.ref F.arr)) (r64 : ρ 64 = some (.ref F.C)) (r39 : ρ 39 = some (.int j)) (q : ∀ σ' v, Go F w σ w σ' → K.next (ρ.put 63 v) σ') :
    exs (callF fi (n+5)) (.cons (.assign 63 (.call 57 (.cons (.loc 64) (.cons (.loc 39) .nil)))) (.cons (.ite (.ors (.cons (.e (.b .ned (.call 20 (.cons (.loc 31) (.cons (.loc 39) .nil))) (.u .isNN (.loc 63)))) (.cons (.e (.b .ned (.call 51 (.cons (.call 21 (.cons (.loc 31) (.cons (.loc 39) .nil))) .nil)) (.call 56 (.cons (.loc 63) .nil)))) .nil))) (.cons (.ret (.bool false)) .nil) .nil) .nil)) ρ K σ := by
  have hx := T.xs
  have hxl := xv_len (w := w)
  have ea : atI w.ys j = (atI w.xs j).map Sc.d := by rw [← he]; exact atI_map _ _ _
  refine ⟨_, r64, _, r39, evs_nil <| at_ok O (by rw [← he, hxl]; lia) fun v C => ?_⟩
  have es : (atI w.xs j).isSome = (atI w.ys j).isSome := by rw [ea, Option.isSome_map]
  refine ⟨_, (if_neg (by decide)).trans r31, _, (if_neg (by decide)).trans r39, evs_nil <| has_element_ok O T.small ⟨_, if_pos rfl, ?_⟩⟩
  rw [es]
  have rest : tstOr (callF fi (n+5)) (.cons (.e (.b .ned (.call 51 (.cons (.call 21 (.cons (.loc 31) (.cons (.loc 39) .nil))) .nil)) (.call 56 (.cons (.loc 63) .nil)))) .nil) (ρ.put 63 v) (fun t σ => (t = true → exs (callF fi (n+5)) (.cons (.ret (.bool false)) .nil) (ρ.put 63 v) (Ks.nx K (fun ρ σ => exs (callF fi (n+5)) .nil ρ K σ)) σ) ∧ (t = false → exs (callF fi (n+5)) .nil (ρ.put 63 v) (Ks.nx K (fun ρ σ => exs (callF fi (n+5)) .nil ρ K σ)) σ)) (K.exc (ρ.put 63 v)) σ :=
    ⟨_, (if_neg (by decide)).trans r31, _, (if_neg (by decide)).trans r39, evs_nil <| element_value_ok O N T.small fun u V => evs_nil <| told_ok O V fun σ₁ u' G Tu => ⟨_, if_pos rfl, evs_nil <| of_ok (C.st G.st) fun u₂ T₂ => by
      rw [he] at Tu
      exact ned_told Tu T₂ ⟨_, rfl, if_f rfl (if_f rfl (q _ v G))⟩⟩⟩
  cases h : atI w.ys j with
  | none => rw [h] at C; cases C; exact isNN_f (ned_bool ⟨_, rfl, if_f rfl rest⟩)
  | some d => rw [h] at C; cases C; exact isNN_t vN (ned_bool ⟨_, rfl, if_f rfl rest⟩)
theorem check_loop (N : Nice w) (T : Tiny w) (he : xv w = w.ys) {ρ₀ : Loc} (r31 : ρ₀ 31 = some (.ref F.arr)) (r64 : ρ₀ 64 = some (.ref F.C)) : ∀ (js : List Int) (σ : AH) (ρ : Loc), Ok F w σ → (∀ y, y ≠ 39 → y ≠ 63 → ρ y = ρ₀ y) → (∀ σ' ρ', Go F w σ w σ' → (∀ y, y ≠ 39 → y ≠ 63 → ρ' y = ρ₀ y) → K.next ρ' σ') →
    forN (fun ρ k σ => exs (callF fi (n+5)) (.cons (.assign 63 (.call 57 (.cons (.loc 64) (.cons (.loc 39) .nil)))) (.cons (.ite (.ors (.cons (.e (.b .ned (.call 20 (.cons (.loc 31) (.cons (.loc 39) .nil))) (.u .isNN (.loc 63)))) (.cons (.e (.b .ned (.call 51 (.cons (.call 21 (.cons (.loc 31) (.cons (.loc 39) .nil))) .nil)) (.call 56 (.cons (.loc 63) .nil)))) .nil))) (.cons (.ret (.bool false)) .nil) .nil) .nil)) ρ k σ) 39 K (js.map AV.int) ρ σ
  | [], σ, ρ, O, h, q => q σ ρ (.refl O) h
  | j :: js, σ, ρ, O, h, q => place_turn O N T he ((if_neg (by decide)).trans ((h 31 (by decide) (by decide)).trans r31)) ((if_neg (by decide)).trans ((h 64 (by decide) (by decide)).trans r64)) (if_pos rfl) fun σ' v G =>
    check_loop N T he r31 r64 js σ' _ G.ok (fun y a b => (if_neg b).trans ((if_neg a).trans (h y a b))) fun σ₂ ρ₂ G₂ h₂ => q σ₂ ρ₂ (G.trans G₂) h₂
noncomputable def Same (ρ ρ' : Loc) : Prop := ∀ y, y ≠ 39 → y ≠ 63 → y ≠ 60 → ρ' y = ρ y
structure Here (F : Fx) (ρ : Loc) (T : Nat) : Prop where
  r25 : ρ 25 = some (.ref F.ct)
  r31 : ρ 31 = some (.ref F.arr)
  r64 : ρ 64 = some (.ref F.C)
  r47 : ρ 47 = some (.ref T)
theorem Here.same {T : Nat} {ρ' : Loc} (H : Here F ρ T) (S : Same ρ ρ') : Here F ρ' T := ⟨(S 25 (by decide) (by decide) (by decide)).trans H.r25, (S 31 (by decide) (by decide) (by decide)).trans H.r31, (S 64 (by decide) (by decide) (by decide)).trans H.r64, (S 47 (by decide) (by decide) (by decide)).trans H.r47⟩
theorem Same.trans {ρ' ρ'' : Loc} (S : Same ρ ρ') (S' : Same ρ' ρ'') : Same ρ ρ'' := fun y a b c => (S' y a b c).trans (S y a b c)
noncomputable def kOf (i : Int) : Int := if AOp.mod.on i 15 < 4 then 3 else 6
theorem done_k (O : Ok F w σ) (N : Nice w) (hx : w.xs.length ≤ 90) (hw : w.last ≤ 100) (he : xv w = w.ys) {T : Nat} (hT : At_ F w σ T (.list [.ref F.t0, .ref F.t1])) {i : Int} (q : ∀ w' σ', Deed F w σ w' σ' (kOf i) → Q (.bool true) σ') : callF fi (n+9) 66 [.ref F.ct, .ref F.arr, .ref F.C, .int i, .ref T] Q E σ :=
  done_ok O N hx hw he hT (fun c w' σ' D => q w' σ' (by rw [kOf, if_pos c]; exact D)) fun c w' σ' D => q w' σ' (by rw [kOf, if_neg c]; exact D)
theorem turn_ok (O : Ok F w σ) (N : Nice w) (hx : w.xs.length ≤ 60) (hw : w.last ≤ 90) (he : xv w = w.ys) {T : Nat} (hT : At_ F w σ T (.list [.ref F.t0, .ref F.t1])) {i : Int} (H : Here F ρ T) (r60 : ρ 60 = some (.int i)) (q : ∀ w' σ' ρ', Deed F w σ w' σ' (kOf i) → Same ρ ρ' → K.next ρ' σ') :
    exs (callF fi (n+9)) (.cons (.ite (.ors (.cons (.not (.e (.call 66 (.cons (.loc 25) (.cons (.loc 31) (.cons (.loc 64) (.cons (.loc 60) (.cons (.loc 47) .nil)))))))) (.cons (.e (.b (.cmp .ne) (.u .len (.u (.attr 8) (.loc 31))) (.u .len (.loc 64)))) .nil))) (.cons (.ret (.bool false)) .nil) .nil) (.cons (.forR 39 (.b (.ar .sub) (.u .neg (.u .len (.loc 64))) (.int 1)) (.b (.ar .add) (.u .len (.loc 64)) (.int 1)) (.cons (.assign 63 (.call 57 (.cons (.loc 64) (.cons (.loc 39) .nil)))) (.cons (.ite (.ors (.cons (.e (.b .ned (.call 20 (.cons (.loc 31) (.cons (.loc 39) .nil))) (.u .isNN (.loc 63)))) (.cons (.e (.b .ned (.call 51 (.cons (.call 21 (.cons (.loc 31) (.cons (.loc 39) .nil))) .nil)) (.call 56 (.cons (.loc 63) .nil)))) .nil))) (.cons (.ret (.bool false)) .nil) .nil) .nil))) .nil)) ρ K σ := by
  refine ⟨_, H.r25, _, H.r31, _, H.r64, _, r60, _, H.r47, evs_nil <| done_k O N (by lia) (by lia) he hT fun w' σ' D => ⟨_, rfl, ?_⟩⟩
  have hD := D.pot
  have hlast : w'.last ≤ 200 := by
    have : w'.last ≤ pot w' := by unfold pot; lia
    have : kOf i ≤ 6 := by unfold kOf; split <;> lia
    have hp : pot w ≤ w.last + w.xs.length := by
      have := ho_som (xv w)
      have := xv_len (w := w)
      unfold pot; lia
    lia
  have hl' : w'.xs.length ≤ 63 := by rcases D.len with h | h <;> lia
  have hyl : w'.ys.length = w'.xs.length := by rw [← D.eq, xv_len]
  have T' : Tiny w' := ⟨by lia, hlast⟩
  obtain ⟨wk, hA⟩ := D.go.ok.arr
  obtain ⟨cs, hC, A⟩ := D.go.ok.C
  have el : cs.length = w'.xs.length := A.length.trans hyl
  have hcl : cs.length ≤ lim := lim_of (m := 63) (by lia) rfl
  refine if_f rfl ⟨_, H.r31, _, _, _, _, rfl, hA, rfl, _, _, rfl, D.go.ok.I, len_lim T'.small, _, H.r64, _, _, rfl, hC, hcl, _, _, rfl, rfl, _, rfl, if_f ?_ (if_f rfl ?_)⟩
  · show (!decide (((w'.xs.map itemV).length : Int) = (cs.length : Int))) = false
    rw [len_eq, el, decide_eq_true rfl]; rfl
  refine ⟨_, H.r64, _, _, rfl, hC, hcl, _, rfl, _, _, rfl, rfl, trivial, _, H.r64, _, _, rfl, hC, hcl, _, _, rfl, rfl, trivial, _, _, rfl, rfl, ⟨by show -((10000 : Nat) : Int) ≤ -(cs.length : Int) - 1; lia, by show -(cs.length : Int) - 1 ≤ ((10000 : Nat) : Int); lia⟩, ⟨by show -((10000 : Nat) : Int) ≤ (cs.length : Int) + 1; lia, by show (cs.length : Int) + 1 ≤ ((10000 : Nat) : Int); lia⟩, ?_⟩
  have ei : ∀ lo hi, intsR lo hi = (((List.range (hi - lo).toNat).map fun (k : Nat) => lo + (k : Int)).map AV.int) := fun lo hi => by rw [List.map_map]; rfl
  rw [ei]
  exact check_loop (n := n + 4) D.nice T' D.eq H.r31 H.r64 _ σ' ρ D.go.ok (fun Ω Ω Ω => rfl) fun σ₂ ρ₂ G h => q w' σ₂ ρ₂ ⟨D.go.trans G, D.nice, D.eq, D.pot, D.len⟩ fun y a b Ω => h y a b
theorem last_le {k : Int} (hp : pot w + 0 ≤ k) : w.last ≤ k := by unfold pot at hp; lia
theorem deeds_loop {T l : Nat} {is : List Int} {ρ₀ : Loc} (H : Here F ρ₀ T) : ∀ (js : List Int) (w : Wd) (σ : AH) (ρ : Loc), Ok F w σ → Nice w → xv w = w.ys → w.xs.length + 3 * js.length ≤ 60 ∧ js.length ≤ 11 → pot w + (js.map kOf).sum ≤ 66 → At_ F w σ T (.list [.ref F.t0, .ref F.t1]) → At_ F w σ l (.list (is.map AV.int)) → Same ρ₀ ρ →
    (∀ w' σ' ρ', Ok F w' σ' → Nice w' → xv w' = w'.ys → w'.last ≤ 66 → w'.xs.length ≤ 60 → At_ F w' σ' T (.list [.ref F.t0, .ref F.t1]) → Same ρ₀ ρ' → K.next ρ' σ') →
    forL (fun ρ k σ => exs (callF fi (n+9)) (.cons (.ite (.ors (.cons (.not (.e (.call 66 (.cons (.loc 25) (.cons (.loc 31) (.cons (.loc 64) (.cons (.loc 60) (.cons (.loc 47) .nil)))))))) (.cons (.e (.b (.cmp .ne) (.u .len (.u (.attr 8) (.loc 31))) (.u .len (.loc 64)))) .nil))) (.cons (.ret (.bool false)) .nil) .nil) (.cons (.forR 39 (.b (.ar .sub) (.u .neg (.u .len (.loc 64))) (.int 1)) (.b (.ar .add) (.u .len (.loc 64)) (.int 1)) (.cons (.assign 63 (.call 57 (.cons (.loc 64) (.cons (.loc 39) .nil)))) (.cons (.ite (.ors (.cons (.e (.b .ned (.call 20 (.cons (.loc 31) (.cons (.loc 39) .nil))) (.u .isNN (.loc 63)))) (.cons (.e (.b .ned (.call 51 (.cons (.call 21 (.cons (.loc 31) (.cons (.loc 39) .nil))) .nil)) (.call 56 (.cons (.loc 63) .nil)))) .nil))) (.cons (.ret (.bool false)) .nil) .nil) .nil))) .nil)) ρ k σ) 60 l (is.map AV.int) K (js.map AV.int) ρ σ
  | [], w, σ, ρ, O, N, he, hx, hp, hT, L, S, q => ⟨L.at_, q w σ ρ O N he (last_le hp) hx.1 hT S⟩
  | i :: js, w, σ, ρ, O, N, he, hx, hp, hT, L, S, q => by
    have hl : w.last ≤ pot w := by unfold pot; lia
    have hs : ∀ js : List Int, 0 ≤ (js.map kOf).sum := fun js => by
      induction js with
      | nil => exact Int.le_refl _
      | cons a r ih => rw [List.map_cons, List.sum_cons]; have : 3 ≤ kOf a := by unfold kOf; split <;> lia
                       lia
    have hp : pot w + (kOf i + (js.map kOf).sum) ≤ 66 := hp
    have hk : 3 ≤ kOf i := by unfold kOf; split <;> lia
    have hs := hs js
    obtain ⟨hx, hn⟩ := hx
    rw [List.length_cons] at hx hn
    have S' : Same ρ₀ (ρ.put 60 (.int i)) := fun y a b c => (if_neg c).trans (S y a b c)
    exact ⟨L.at_, turn_ok O N (by lia) (by lia) he hT (H.same S') (if_pos rfl) fun w' σ' ρ' D h => deeds_loop H js w' σ' ρ' D.go.ok D.nice D.eq (by rcases D.len with h | h <;> exact ⟨by lia, by lia⟩) (by have := D.pot; lia) (D.go.st.at_ _ _ hT) (D.go.st.at_ _ _ L) (S'.trans h) q⟩
end
end
section
set_option tactic.hygienic false
open PySem PySem.W
section
variable {F : Fx} {w w' w'' : Wd} {σ σ' σ'' : AH} {Q : AV → AH → Prop} {E : EX} {n : Nat} {ρ : Loc} {K : Ks}
theorem eqv_rf (d : D) (k : Bool) : PyData.eqv (rd d) (rd (.rf k)) = d.isR k := by
  cases d with
  | none => rfl
  | int i => rfl
  | str s => rfl
  | rf j => cases j <;> cases k <;> decide +kernel
theorem count_rd (ds : List D) (k : Bool) : ((ds.map rd).countP fun y => PyData.eqv y (rd (.rf k))) = ds.countP (D.isR k) := by
  induction ds with
  | nil => rfl
  | cons d r ih => rw [List.map_cons, List.countP_cons, List.countP_cons, ih, eqv_rf]
theorem count_live (k : Bool) : ∀ xs : List (Option Sc), ((xs.filterMap id).map Sc.d).countP (D.isR k) = ((xs.map (Option.map Sc.d)).map od).countP (D.isR k)
  | [] => rfl
  | none :: r => by rw [List.map_cons, List.map_cons, List.countP_cons]; exact count_live k r
  | some s :: r => by
    have := count_live k r
    show (s.d :: (r.filterMap id).map Sc.d).countP _ = (s.d :: (r.map (Option.map Sc.d)).map od).countP _
    rw [List.countP_cons, List.countP_cons, this]
theorem cnt_end (N : Nice w') (he : xv w' = w'.ys) (z : w.zs = []) (l : w.live = w'.live) (p : w.pd = w'.pd) (y : w.ys = w'.ys) (k : Bool) : w.cnt k - 1 = (((w.ys.map od).countP (D.isR k) : Nat) : Int) := by
  unfold Wd.cnt
  rw [z, l, p, N.pd, List.append_nil, List.append_nil, (N.full.map Sc.d).countP_eq, count_live, y, ← he]
  show 1 + (((xv w').map od).countP _ : Int) - 1 = _
  lia
theorem ints_eqd {a b : Nat} {i j : Int} (ha : σ a = some (.list [.int i, .int j])) (hb : σ b = some (.list [.int i, .int j])) (q : Q (.bool true) σ) : sem2 .eqd (.ref a) (.ref b) Q σ :=
  eqd_lists (F := ⟨0, 0, 0, 0, 0, 0⟩) (w := ⟨0, 0, 0, [], [], [], [], [], [], []⟩) (w' := ⟨0, 0, 0, [], [], [], [], [], [], []⟩) (ds := [.int i, .int j]) ha hb (.cons (.int _) (.cons (.int _) .nil)) (.cons (.int _) (.cons (.int _) .nil)) q
theorem end_ok (O : Ok F w σ) (N : Nice w) (he : xv w = w.ys) (hx : w.xs.length ≤ 60) (hl : w.last ≤ 66) {T : Nat} (hT : At_ F w σ T (.list [.ref F.t0, .ref F.t1])) (H : Here F ρ T) (q : ∀ σ', K.ret (.bool true) σ') :
    exs (callF fi (n+9)) (.cons (.expr (.mcall (.loc 25) 559 47 72 (.cons (.int 0) .nil))) (.cons (.assign 70 (.comp (.call 56 (.cons (.loc 63) .nil)) 63 [] (.loc 64))) (.cons (.ret (.b .eqd (.comp (.b (.ar .sub) (.u (.attr 1) (.loc 45)) (.int 1)) 45 [] (.loc 47)) (.comp (.m1 .count (.loc 70) (.tup (.cons (.str (.ofString "ref")) (.cons (.u (.attr 0) (.loc 45)) .nil)))) 45 [70] (.loc 47)))) .nil))) ρ K σ := by
  obtain ⟨P, hct, _⟩ := O.ct
  refine ⟨_, H.r25, _, _, rfl, hct.at_, rfl, evs_i <| settle_ok O N (by lia) fun w₂ σ₂ O₂ S₂ z0 l0 p0 y0 => ?_⟩
  obtain ⟨cs, hC, A⟩ := O₂.C
  have hcl : cs.length ≤ 60 := by rw [A.length, y0, ← he, xv_len]; exact hx
  refine ⟨_, H.r64, F.C, cs, rfl, hC, lim_of hcl rfl, plain_go O₂ hC A fun σ₃ us a G L Ω => ?_⟩
  have hT₃ := G.st.at_ _ _ (S₂.at_ _ _ hT)
  obtain ⟨k0, h0⟩ := G.ok.t0
  obtain ⟨k1, J, h1⟩ := G.ok.t1
  have l2 : ([AV.ref F.t0, AV.ref F.t1]).length ≤ lim := Nat.le_of_ble_eq_true rfl
  refine ⟨_, (if_neg (by decide)).trans H.r47, T, _, rfl, hT₃.at_, l2, hT₃.at_, _, if_pos rfl, _, _, _, _, rfl, h0, rfl, _, _, rfl, rfl, trivial, hT₃.at_, _, if_pos rfl, _, _, _, _, rfl, h1, rfl, _, _, rfl, rfl, trivial, hT₃.at_, fun b hb => ?_⟩
  have c0 : AOp.sub.on (w₂.cnt false) 1 = _ := cnt_end N he z0 l0 p0 y0 false
  have c1 : AOp.sub.on (w₂.cnt true) 1 = _ := cnt_end N he z0 l0 p0 y0 true
  rw [c0, c1]
  have Gb := G.ok.new hb (.list ([] ++ [.int (((w₂.ys.map od).countP (D.isR false) : Nat) : Int)] ++ [.int (((w₂.ys.map od).countP (D.isR true) : Nat) : Int)]))
  have hT₄ := Gb.st.at_ _ _ hT₃
  have L₄ := L.st Gb
  -- a thing is counted among the cells
  have turn : ∀ (k : Bool) (σ' : AH) (Q : AV → AH → Prop), Go F w₂ σ₃ w₂ σ' → (∀ σ'', Go F w₂ σ' w₂ σ'' → (∀ x y, σ' x = some y → σ'' x = some y) → Q (.int (((w₂.ys.map od).countP (D.isR k) : Nat) : Int)) σ'') →
      ev (callF fi (n+9)) (.m1 .count (.loc 70) (.tup (.cons (.str (.ofString "ref")) (.cons (.u (.attr 0) (.loc 45)) .nil)))) (((ρ.put 70 (.ref a)).only [70]).put 45 (.ref (F.tk k))) Q (K.exc (ρ.put 70 (.ref a))) σ' := fun k σ' Q G' kk => by
    obtain ⟨C, fs, hn⟩ := G'.ok.num k
    have L' := L.st G'
    refine ⟨.ref a, (if_neg (by decide)).trans ((if_pos (show 70 ∈ [70] by decide)).trans (if_pos rfl)), ⟨a, us, rfl, L'.at_.at_⟩, _, if_pos rfl, _, _, _, _, rfl, hn, rfl, Nat.le_of_ble_eq_true rfl, fun c hc => ?_⟩
    obtain ⟨t1, t2, t3⟩ := tls_rd (L'.st (G'.ok.new hc (.tup [.str (.ofString "ref"), .int (num k)]))).tl
    obtain ⟨u1, u2, u3⟩ := (Tl.ref (F := F) (w := w₂) (k := k) (G'.ok.newAt hc (show imm (.tup [.str (.ofString "ref"), .int (num k)]) = true from rfl))).rd
    refine ⟨_, _, .list (L'.st (G'.ok.new hc _)).at_.at_ t1, u1, shapedL t2 t3, shaped1 u2 u3, ?_⟩
    rw [count_rd]
    exact kk _ (G'.ok.new hc _) fun x y e => put_new hc e
  refine ⟨_, (if_neg (by decide)).trans H.r47, T, _, rfl, hT₄.at_, l2, hT₄.at_, turn false _ _ Gb fun σ₅ G₅ X₅ => ⟨(G₅.st.at_ _ _ hT₄).at_, turn true _ _ (Gb.trans G₅) fun σ₆ G₆ X₆ => ⟨(G₆.st.at_ _ _ (G₅.st.at_ _ _ hT₄)).at_, fun d hd => ?_⟩⟩⟩
  exact ints_eqd (put_new hd (X₆ _ _ (X₅ _ _ put_eq))) put_eq (q _)
end
end
section
set_option tactic.hygienic false
open PySem PySem.W
section
variable {σ σ' σ'' : AH} {Q : AV → AH → Prop} {E : EX} {n : Nat} {ρ : Loc} {K : Ks}
theorem ne_cl {a b : Nat} {x y : AO} (ha : σ a = some x) (hb : σ b = some y) (n : (cl x == cl y) = false) : b ≠ a := fun e => by subst e; rw [ha] at hb; cases hb; rw [beq_self_eq_true] at n; cases n
theorem ExtBut.on {a : Nat} {x : AO} (X : ExtBut a σ σ') (ha : σ a = some x) {b : Nat} {y : AO} (h : σ b = some y) (n : (cl x == cl y) = false) : σ' b = some y := X b y h (ne_cl ha h n)
structure Start (σ : AH) (F : Fx) (I z p T : Nat) (c : Int) : Prop where
  fhp : ∃ lm, σ F.hp = some (.inst 218 (hpF lm 3 z))
  fct : σ F.ct = some (.inst 559 [(15, .ref F.hp), (16, .none), (17, .ref p)])
  fp : σ p = some (.dict [])
  farr : ∃ wk, σ F.arr = some (.inst 78 (arF 3 c wk I))
  f0 : ∃ wk, σ F.t0 = some (.inst 59 (scF 1 c wk (.int 5)))
  f1 : ∃ wk J, σ F.t1 = some (.inst 78 (arF 2 c wk J))
  fI : σ I = some (.list [])
  fz : σ z = some (.list [])
  fT : σ T = some (.list [.ref F.t0, .ref F.t1])
  nI : z ≠ I ∧ T ≠ I
  nz : T ≠ z
theorem Start.ext {F : Fx} {I z p T : Nat} {c : Int} (W : Start σ F I z p T c) (X : Ext σ σ') : Start σ' F I z p T c :=
  ⟨let ⟨lm, h⟩ := W.fhp; ⟨lm, X _ _ h⟩, X _ _ W.fct, X _ _ W.fp, let ⟨k, h⟩ := W.farr; ⟨k, X _ _ h⟩, let ⟨k, h⟩ := W.f0; ⟨k, X _ _ h⟩, let ⟨k, J, h⟩ := W.f1; ⟨k, J, X _ _ h⟩, X _ _ W.fI, X _ _ W.fz, X _ _ W.fT, W.nI, W.nz⟩
noncomputable def w₀ (I z : Nat) : Wd := ⟨I, z, 3, [], [], [], [], [], [], []⟩
theorem Start.ok {hp ct arr t0 t1 I z p T C : Nat} (W : Start σ ⟨hp, ct, arr, t0, t1, 0⟩ I z p T 1) (hC : σ C = none) :
    Ok ⟨hp, ct, arr, t0, t1, C⟩ (w₀ I z) (σ.put C (.list [])) ∧ At_ ⟨hp, ct, arr, t0, t1, C⟩ (w₀ I z) (σ.put C (.list [])) T (.list [.ref t0, .ref t1]) := by
  have V := W.ext (Ext.put (o := .list []) hC)
  have nm : ∀ {a : Nat} {o : AO}, σ a = some o → a ≠ I → a ≠ z → a ∉ muts ⟨hp, ct, arr, t0, t1, C⟩ (w₀ I z) := fun h n1 n2 => by
    simp only [muts, w₀, List.mem_cons, not_or]
    exact ⟨ne_of_new h hC, n1, n2, fun m => (nomatch m)⟩
  have at_ : ∀ {a : Nat} {o : AO}, σ a = some o → imm o = true → a ≠ I → a ≠ z → At_ ⟨hp, ct, arr, t0, t1, C⟩ (w₀ I z) (σ.put C (.list [])) a o := fun h i n1 n2 => ⟨put_new hC h, i, nm h n1 n2⟩
  refine ⟨⟨V.fhp, ⟨p, at_ W.fct rfl (ne_cl W.fI W.fct rfl) (ne_cl W.fz W.fct rfl), at_ W.fp rfl (ne_cl W.fI W.fp rfl) (ne_cl W.fz W.fp rfl)⟩, V.farr, V.f0, V.f1, V.fI, V.fz, ⟨[], put_eq, .nil⟩, ?_, fun a m => (nomatch m), fun s m => (nomatch m), fun s m => (nomatch m), List.nodup_nil, fun s m => (nomatch m)⟩, at_ W.fT rfl W.nI.2 W.nz⟩
  simp only [muts, w₀, List.nodup_cons, List.mem_cons, not_or]
  exact ⟨⟨(ne_of_new W.fI hC).symm, (ne_of_new W.fz hC).symm, fun m => (nomatch m)⟩, ⟨W.nI.1.symm, fun m => (nomatch m)⟩, fun m => (nomatch m), List.nodup_nil⟩
theorem things_ok {hp z ct p : Nat} {lm : AV} (h1 : σ hp = some (.inst 218 (hpF lm 0 z))) (hz : σ z = some (.list [])) (hc : σ ct = some (.inst 559 [(15, .ref hp), (16, .none), (17, .ref p)])) (hpp : σ p = some (.dict []))
    (r15 : ρ 15 = some (.ref hp)) {R : SS} (q : ∀ σ' T arr t0 t1 I, Start σ' ⟨hp, ct, arr, t0, t1, 0⟩ I z p T 0 → exs (callF fi (n+3)) R ((ρ.put 47 (.ref T)).put 31 (.ref arr)) K σ') :
    exs (callF fi (n+3)) (.cons (.assign 47 (.list (.cons (.mcall (.loc 15) 218 6 54 (.cons (.int 5) .nil)) (.cons (.mcall (.loc 15) 218 7 73 .nil) .nil)))) (.cons (.assign 31 (.mcall (.loc 15) 218 7 73 .nil)) R)) ρ K σ := by
  refine ⟨_, r15, _, _, rfl, h1, rfl, evs_i <| mk_scalar h1 fun σ₃ t0 wk0 Y₃ h3 s3 => ⟨_, r15, _, _, rfl, h3, rfl, evs_nil <| mk_array h3 fun σ₄ t1 wk1 J Y₄ h4 s4 j4 jn => ⟨Nat.le_of_ble_eq_true rfl, fun T hT => ?_⟩⟩⟩
  have h5 := put_new (o := .list [.ref t0, .ref t1]) hT h4
  refine ⟨_, (if_neg (by decide)).trans r15, _, _, rfl, h5, rfl, evs_nil <| mk_array h5 fun σ₆ arr wk2 I Y₆ h6 s6 i6 inn => q σ₆ T arr t0 t1 I ?_⟩
  have old : ∀ {b : Nat} {y : AO}, σ b = some y → (218 == cl y) = false → σ₄ b = some y := fun h n => Y₄.on h3 (Y₃.on h1 h n) n
  have five : ∀ {b : Nat} {y : AO}, σ₄ b = some y → (σ₄.put T (.list [.ref t0, .ref t1])) b = some y := fun h => put_new hT h
  have all : ∀ {b : Nat} {y : AO}, σ₄ b = some y → (218 == cl y) = false → σ₆ b = some y := fun h n => Y₆.on h5 (five h) n
  have z4 := old hz rfl
  have n0 : ∀ {b : Nat} {y : AO}, (σ₄.put T (.list [.ref t0, .ref t1])) b = some y → b ≠ I := fun h => ne_of_new h inn
  exact ⟨⟨_, h6⟩, all (old hc rfl) rfl, all (old hpp rfl) rfl, ⟨_, s6⟩, ⟨_, all (Y₄.on h3 s3 rfl) rfl⟩, ⟨_, _, all s4 rfl⟩, i6, all z4 rfl, Y₆.on h5 put_eq rfl, ⟨n0 (five z4), n0 put_eq⟩, (ne_of_new z4 hT).symm⟩
theorem held_ok {hp ct arr t0 t1 I z p T : Nat} (W : Start σ ⟨hp, ct, arr, t0, t1, 0⟩ I z p T 0) (r25 : ρ 25 = some (.ref ct)) (r31 : ρ 31 = some (.ref arr)) (r47 : ρ 47 = some (.ref T))
    (q : ∀ σ' ρ', Start σ' ⟨hp, ct, arr, t0, t1, 0⟩ I z p T 1 → (∀ y, y ≠ 45 → ρ' y = ρ y) → K.next ρ' σ') :
    ex (callF fi (n+1)) (.for 45 (.b .lcat (.loc 47) (.list (.cons (.loc 31) .nil))) (.cons (.expr (.mcall (.loc 25) 559 40 48 (.cons (.loc 45) .nil))) .nil)) ρ K σ := by
  refine ⟨_, r47, _, r31, Nat.le_of_ble_eq_true rfl, fun a ha => ⟨T, a, _, _, rfl, rfl, put_new ha W.fT, put_eq, Nat.le_of_ble_eq_true rfl, fun b hb => ⟨b, _, rfl, put_eq, ?_⟩⟩⟩
  have V := W.ext ((Ext.put (o := .list [.ref arr]) ha).trans (.put (o := .list ([.ref t0, .ref t1] ++ [.ref arr])) hb))
  obtain ⟨lm, v1⟩ := V.fhp
  obtain ⟨wa, v2⟩ := V.farr
  obtain ⟨k0, v3⟩ := V.f0
  obtain ⟨k1, J, v4⟩ := V.f1
  have vb : (((σ.put a (.list [.ref arr])).put b (.list ([.ref t0, .ref t1] ++ [.ref arr])))) b = some (.list ([.ref t0, .ref t1] ++ [.ref arr])) := put_eq
  refine ⟨vb, _, (if_neg (by decide)).trans r25, _, _, rfl, V.fct, rfl, _, if_pos rfl, evs_nil <| hold_ok v3 rfl (Nat.le_of_ble_eq_true rfl) ?_⟩
  have p1 : ∀ {x : Nat} {y : AO} {o : AO}, (((σ.put a (.list [.ref arr])).put b (.list ([.ref t0, .ref t1] ++ [.ref arr])))) x = some y → (59 == cl y) = false → (((σ.put a (.list [.ref arr])).put b (.list ([.ref t0, .ref t1] ++ [.ref arr]))).put t0 o) x = some y := fun h n => put_cl v3 h n
  refine ⟨p1 vb rfl, _, (if_neg (by decide)).trans ((if_neg (by decide)).trans r25), _, _, rfl, p1 V.fct rfl, rfl, _, if_pos rfl, evs_nil <| hold_ok (p1 v4 rfl) rfl (Nat.le_of_ble_eq_true rfl) ?_⟩
  have p2 : ∀ {x : Nat} {y : AO} {o o' : AO}, (((σ.put a (.list [.ref arr])).put b (.list ([.ref t0, .ref t1] ++ [.ref arr])))) x = some y → (59 == cl y) = false → (78 == cl y) = false → ((((σ.put a (.list [.ref arr])).put b (.list ([.ref t0, .ref t1] ++ [.ref arr]))).put t0 o).put t1 o') x = some y := fun h n m => put_cl (p1 v4 rfl) (p1 h n) m
  have a2 : ∀ {o o' : AO}, ((((σ.put a (.list [.ref arr])).put b (.list ([.ref t0, .ref t1] ++ [.ref arr]))).put t0 o).put t1 o') arr = some (.inst 78 (arF 3 0 wa I)) := put_nu (p1 v4 rfl) (p1 v2 rfl) (by show (2 : Int) ≠ 3; decide)
  refine ⟨p2 vb rfl rfl, _, (if_neg (by decide)).trans ((if_neg (by decide)).trans ((if_neg (by decide)).trans r25)), _, _, rfl, p2 V.fct rfl rfl, rfl, _, if_pos rfl, evs_nil <| hold_ok a2 rfl (Nat.le_of_ble_eq_true rfl) ?_⟩
  have p3 : ∀ {x : Nat} {y : AO} {o o' o'' : AO}, (((σ.put a (.list [.ref arr])).put b (.list ([.ref t0, .ref t1] ++ [.ref arr])))) x = some y → (59 == cl y) = false → (78 == cl y) = false → (((((σ.put a (.list [.ref arr])).put b (.list ([.ref t0, .ref t1] ++ [.ref arr]))).put t0 o).put t1 o').put arr o'') x = some y := fun h n m => put_cl a2 (p2 h n m) m
  refine ⟨p3 vb rfl rfl, q _ _ ⟨⟨lm, p3 v1 rfl rfl⟩, p3 V.fct rfl rfl, p3 V.fp rfl rfl, ⟨wa, put_eq⟩, ⟨k0, put_cl a2 (put_cl (p1 v4 rfl) put_eq rfl) rfl⟩, ⟨k1, J, put_nu a2 put_eq (by show (3 : Int) ≠ 2; decide)⟩, p3 V.fI rfl rfl, p3 V.fz rfl rfl, p3 V.fT rfl rfl, W.nI, W.nz⟩ fun y h => (if_neg h).trans ((if_neg h).trans (if_neg h))⟩
theorem sum_le : ∀ js : List Int, (js.map kOf).sum ≤ 6 * (js.length : Int)
  | [] => Int.le_refl _
  | a :: r => by
    have := sum_le r
    have h : kOf a ≤ 6 := by unfold kOf; split <;> lia
    rw [List.map_cons, List.sum_cons, List.length_cons]; lia
theorem law_ok {a₀ : Nat} {is : List Int} (hl : is.length ≤ 1000) (r71 : ρ 71 = some (.ref a₀)) (q : ∀ σ', K.ret (.bool true) σ') : lawS (callF fi (n+9)) law1 law2 law3 law4 law5 law6 lawE 71 a₀ 10 (is.map AV.int) 60 lawB lawR ρ K σ := by
  refine init1 fun σ₁ hp lm z X₁ h1 z1 zn => init2 rfl fun σ₂ ct p X₂ c2 p2 => things_ok (X₂ _ _ h1) (X₂ _ _ z1) c2 p2 rfl fun σ₃ T arr t0 t1 I W => ?_
  refine held_ok W rfl rfl rfl fun σ₄ ρ₄ W₄ e₄ => ⟨Nat.zero_le _, fun C hC => ?_⟩
  obtain ⟨O, LT⟩ := W₄.ok hC
  have H : Here ⟨hp, ct, arr, t0, t1, C⟩ (ρ₄.put 64 (.ref C)) T := ⟨e₄ 25 (by decide), e₄ 31 (by decide), rfl, e₄ 47 (by decide)⟩
  refine ⟨Nat.le_of_ble_eq_true rfl, fun a ha => ⟨(e₄ 71 (by decide)).trans r71, (clampI is.length 10).toNat, by rw [List.length_map]; exact lim_of hl rfl, by rw [List.length_map]; rfl, fun b hb => ?_⟩⟩
  have hj : (clampI is.length 10).toNat ≤ 10 := by unfold clampI; rw [if_neg (by decide)]; exact Int.toNat_le.mpr (Int.min_le_left ..)
  generalize (clampI is.length 10).toNat = j at hj ⊢
  have ec : cut (is.map AV.int) 0 j = (is.take j).map AV.int := by unfold cut; rw [List.drop_zero, Nat.sub_zero, List.map_take]
  rw [ec]
  have ht : (is.take j).length ≤ 10 := by rw [List.length_take]; lia
  refine ⟨a, b, _, _, rfl, rfl, put_new hb put_eq, put_eq, by rw [List.length_map]; show 1 + _ ≤ 10000; lia, fun l hl' => ⟨l, _, rfl, put_eq, ?_⟩⟩
  have G := (O.new ha (.list [.int 150])).trans (((O.new ha (.list [.int 150])).ok.new hb (.list ((is.take j).map AV.int))).trans ((((O.new ha (.list [.int 150])).ok.new hb (.list ((is.take j).map AV.int))).ok.new hl' (.list ([.int 150] ++ (is.take j).map AV.int)))))
  have Ll := ((O.new ha (.list [.int 150])).ok.new hb (.list ((is.take j).map AV.int))).ok.newAt hl' (show imm (.list ([.int 150] ++ (is.take j).map AV.int)) = true from rfl)
  have N : Nice (w₀ I z) := ⟨.refl _, .refl _, rfl, Int.le_refl _⟩
  have hk : kOf 150 = 3 := by unfold kOf; rw [if_pos (by decide)]
  exact deeds_loop (is := 150 :: is.take j) H (150 :: is.take j) _ _ _ G.ok N rfl ⟨by show 0 + 3 * ((is.take j).length + 1) ≤ 60; lia, by show (is.take j).length + 1 ≤ 11; lia⟩ (by have := sum_le (is.take j); rw [List.map_cons, List.sum_cons, hk]; show (3 : Int) + ((0 : Nat) : Int) + _ ≤ 66; lia) (G.st.at_ _ _ LT) Ll (fun Ω Ω Ω Ω => rfl)
    fun w' σ' ρ' O' N' he hl hx hT S' => end_ok O' N' he hx hl hT (H.same S') q
end
end
section
set_option tactic.hygienic false
open PySem PySem.W PySem.Calls PyProof.Rows
noncomputable abbrev gbK (prog : Program) (K : Frag) (p : Program) (loose : List Str) (w : World) (mg mb : Str → Option Value) : Gb :=
  { prog, w, K, p, loose, mg, mb, nm := fun i => nms.getD i (.ofString ""), nf := 22, nN := 74, cs := insts, ics := [59, 78, 97, 116, 135, 155], die := 266, fa := fun i => fas.getD i 0 }
theorem ints_vr {vs : List Value} {is : List Int} (h : IntsAre vs is) : VRs vs (is.map AV.int) := by
  induction h with
  | nil => exact .nil
  | cons _ _ _ ih => exact .cons (.int _ _) ih
theorem law_fin {prog : Program} {K : Frag} {p : Program} {loose : List Str} {mean : ExcName → Option Value} {w : World} {mg mb : Str → Option Value} {s₁ : Shared} {a : Nat} {vals : List Value} {is : List Int} {L : Addr} {h₁ : Heap} {tk₁ : Nat} {m : Str → Option Value} {o : Obj} {qual : Str} {scope : Scope} {fa : Addr} {cd : Value} {cv : Option Value}
    {body : List Stmt} {E : Value → Shared → Prop} (KX : K.In s₁.heap) (T : PyProof.Rows.Top p loose mean mg mb s₁.heap) (hL : s₁.heap.IsList a vals.toArray) (hI : IntsAre vals is) (hl : ¬ (63 : Int) < is.length) (F : Fr s₁.heap L h₁ m) (N : News s₁.heap L h₁ [(L + 1, o)]) (hd : o.data = .cell cv)
    (hS : statB (gbK prog K p loose w mg mb) = true) (hT : tabB (gbK prog K p loose w mg mb) tabs = true) (hF : fnsB (gbK prog K p loose w mg mb) tabs 0 fis = true) (D : DieF (gbK prog K p loose w mg mb)) (hm : mSS (gbK prog K p loose w mg mb) tabs scope.names f_law.body body = true)
    (sk : scope.kind = .function) (hc : cellsFrom (L + 1) scope.names [] = [(.ofString "plain", L + 1)]) (ky : scope.names.lookup (.ofString "script") = some .local) (my : m (.ofString "script") = some (.ref a)) :
    wpAny (model prog w) (callerA.deeper (envOfC qual scope L fa cd)) (execs body (envOfC qual scope L fa cd)) (LawEnd s₁ L) E ⟨h₁, s₁.gens, s₁.drawn, tk₁, s₁.os⟩ := by
  have S : Stat (gbK prog K p loose w mg mb) s₁.heap := stat_of KX (topRead_of T) hS
  have TO := tab_of D hT
  have H := call_ok TO (fi := fi) (fun f F e => by have := fns_of hF f F e; rw [Nat.zero_add] at this; exact this) 9
  have FS : FmS (gbK prog K p loose w mg mb) scope.names (envOfC qual scope L fa cd) (callerA.deeper (envOfC qual scope L fa cd)) := ⟨⟨rfl, fun x hx => lookup_isSome (cellsFrom_has (.inl hx))⟩, ⟨_, [], L, rfl, rfl, rfl⟩, sk⟩
  exact law_run (g := gbK prog K p loose w mg mb) (y := 71) S ⟨vals, hL, ints_vr hI⟩ (law_sound TO H FS hm) (by decide) sk hc F N hd (show 71 < 74 by decide) ky my (law_ok (n := 0) (by lia) rfl fun Ω => rfl)
end
section
open PySem PySem.W PyProof.Rows
theorem hd.tw6818987989461384207 : True := trivial
theorem hd.tw17311223219408574766 : True := trivial
theorem hd.tw6924109203229866365 : True := trivial
theorem hd.tw15616948245753086127 : True := trivial
theorem hd.tw13047593935725612058 : True := trivial
theorem hd.tw8587404781116728655 : True := trivial
theorem hd.tw13293453174229064190 : True := trivial
theorem hd.tw7519716089354478335 : True := trivial
theorem hd.tw14892549342360969540 : True := trivial
theorem hd.tw978945382295711627 : True := trivial
theorem hd.tw11034497122203965937 : True := trivial
theorem hd.tw6293948785866598258 : True := trivial
theorem hd.tw9641152695372364146 : True := trivial
theorem hd.tw18185175575083235020 : True := trivial
theorem hd.tw11128854368766332075 : True := trivial
theorem hd.tw12591134339009171964 : True := trivial
theorem hd.tw4138081844389336918 : True := trivial
theorem hd.tw15341807382193498959 : True := trivial
theorem hd.tw4377701919642642989 : True := trivial
theorem hd.tw9577689765879766989 : True := trivial
theorem hd.tw10216474801634566288 : True := trivial
theorem hd.tw5148922909946612681 : True := trivial
theorem hd.tw12414669353804360901 : True := trivial
theorem hd.tw5781342201191254626 : True := trivial
theorem hd.tw17711083657039698284 : True := trivial
theorem hd.tw5732804406350252772 : True := trivial
theorem hd.tw1452849714261714991 : True := trivial
theorem hd.tw16302227732802510677 : True := trivial
theorem hd.tw14620637471214046174 : True := trivial
theorem hd.tw14176624398918483544 : True := trivial
theorem hd.tw15043168886218598503 : True := trivial
theorem hd.tw2867327485932766208 : True := trivial
theorem hd.tw6990203504111849199 : True := trivial
theorem hd.tw2448417245163862455 : True := trivial
theorem hd.tw11652457597714270106 : True := trivial
theorem hd.tw16649331688326792143 : True := trivial
theorem hd.tw3818666328621016214 : True := trivial
theorem hd.tw3259873300814134281 : True := trivial
theorem hd.tw7793673504863384051 : True := trivial
theorem hd.tw13372043803930879067 : True := trivial
theorem hd.tw4856431653887292112 : True := trivial
theorem hd.tw307737655149646647 : True := trivial
theorem hd.tw3953601041324332601 : True := trivial
theorem hd.tw11117797201346649052 : True := trivial
theorem hd.tw6046454685291232161 : True := trivial
theorem hd.tw2216850387143573719 : True := trivial
theorem hd.tw8684328023851190084 : True := trivial
theorem hd.tw10543509907540572799 : True := trivial
theorem hd.tw15427206886491885616 : True := trivial
theorem hd.tw10507497572311344420 : True := trivial
theorem hd.tw6838551448383532254 : True := trivial
theorem hd.tw461538923250603899 : True := trivial
theorem hd.tw18241275227582772068 : True := trivial
theorem hd.tw1847840615245081061 : True := trivial
theorem hd.tw13066319289922817542 : True := trivial
theorem hd.tw8047900516022102942 : True := trivial
theorem hd.tw8671608845466749128 : True := trivial
theorem hd.tw8343274005884668182 : True := trivial
theorem hd.tw6998783941825042932 : True := trivial
theorem hd.tw8801323125487838256 : True := trivial
theorem hd.tw16772102934027710169 : True := trivial
theorem hd.tw12936449754285732098 : True := trivial
theorem hd.tw10508133024638518461 : True := trivial
theorem hd.tw13330244855972007585 : True := trivial
theorem hd.tw17599816209265215132 : True := trivial
theorem hd.tw16332348944364537037 : True := trivial
theorem hd.tw2114630138375439770 : True := trivial
theorem hd.tw10012880186880212623 : True := trivial
theorem hd.tw7752767780024739350 : True := trivial
theorem hd.tw7540741092611519060 : True := trivial
theorem hd.tw12092154237167983948 : True := trivial
theorem hd.tw16339271979029011412 : True := trivial
theorem hd.tw732345407407602841 : True := trivial
theorem hd.tw8053944837975664402 : True := trivial
theorem hd.tw6528754448969337418 : True := trivial
theorem hd.tw14598272352848978880 : True := trivial
theorem hd.tw16357263729072622229 : True := trivial
theorem hd.tw8770205317985620760 : True := trivial
theorem hd.tw7540655947842036084 : True := trivial
theorem hd.tw14353793391729792155 : True := trivial
theorem hd.tw7854228177987924090 : True := trivial
theorem hd.tw4014540891139286612 : True := trivial
theorem hd.tw4990156530697904881 : True := trivial
theorem hd.tw8015326511298524721 : True := trivial
theorem hd.tw7746578258024575070 : True := trivial
theorem hd.tw12588582704262371052 : True := trivial
theorem hd.tw5282504435634884242 : True := trivial
theorem hd.tw11893437276241958245 : True := trivial
theorem hd.tw11953376511379268794 : True := trivial
theorem hd.tw18300207936620678264 : True := trivial
theorem hd.tw15368132723985388332 : True := trivial
theorem hd.tw13518370688599389936 : True := trivial
theorem hd.tw13342606739435360313 : True := trivial
theorem hd.tw11249132867342737325 : True := trivial
theorem hd.tw5363564295841288755 : True := trivial
theorem hd.tw5562173858411828344 : True := trivial
theorem hd.tw13919464512627920130 : True := trivial
theorem hd.tw7891253978561527248 : True := trivial
theorem hd.tw2167537188350426706 : True := trivial
theorem hd.tw5278057926702712004 : True := trivial
theorem hd.tw13903934854276604550 : True := trivial
theorem hd.tw3443669649825651883 : True := trivial
theorem hd.tw12131494931117144662 : True := trivial
theorem hd.tw3915529967508079626 : True := trivial
theorem hd.tw6545403380812914513 : True := trivial
theorem hd.tw6482722132109649516 : True := trivial
theorem hd.tw3480954088277226078 : True := trivial
theorem hd.tw526207354791536317 : True := trivial
theorem hd.tw9271970288684553227 : True := trivial
theorem hd.tw13609717118414637909 : True := trivial
theorem hd.tw8081886968326746073 : True := trivial
theorem hd.tw12173100003817136821 : True := trivial
theorem hd.tw11631869004601391166 : True := trivial
theorem hd.tw14400467628812073631 : True := trivial
theorem hd.tw4478964076566166474 : True := trivial
theorem hd.tw4115565904173853331 : True := trivial
theorem hd.tw13566260322249332789 : True := trivial
theorem hd.tw6761669909254768831 : True := trivial
theorem hd.tw6982297934935202809 : True := trivial
theorem hd.tw7721951785955056133 : True := trivial
theorem hd.tw13280443560766958183 : True := trivial
theorem hd.tw10525666975642140466 : True := trivial
theorem hd.tw8493152586797012548 : True := trivial
theorem hd.tw2502866573005156581 : True := trivial
theorem hd.tw1299046323782801668 : True := trivial
theorem hd.tw5987830557187376847 : True := trivial
theorem hd.tw17901334829092211166 : True := trivial
theorem hd.tw2195365466389143174 : True := trivial
theorem hd.tw15453881632637574043 : True := trivial
theorem hd.tw13225837485096350037 : True := trivial
theorem hd.tw7628703163842673926 : True := trivial
theorem hd.tw16037735763661986305 : True := trivial
theorem hd.tw3759623122121258479 : True := trivial
theorem hd.tw1088296927520436173 : True := trivial
theorem hd.tw1865391376527767206 : True := trivial
theorem hd.tw16155205043701107222 : True := trivial
theorem hd.tw8117029840178788049 : True := trivial
theorem hd.tw8545014587354053640 : True := trivial
theorem hd.tw9427301549700849589 : True := trivial
theorem hd.tw9421340871869096474 : True := trivial
theorem hd.tw7610815399733428385 : True := trivial
theorem hd.tw1882180444382439491 : True := trivial
theorem hd.tw16053994301053490033 : True := trivial
theorem hd.tw7914949630228597729 : True := trivial
theorem hd.tw12050417470231563642 : True := trivial
theorem hd.tw7676003278276379012 : True := trivial
theorem hd.tw10844753989422098599 : True := trivial
theorem hd.tw190519026028168232 : True := trivial
theorem hd.tw16056359734778111409 : True := trivial
theorem hd.tw920214292312260371 : True := trivial
theorem hd.tw9277588360372424766 : True := trivial
theorem hd.tw15463257786427224491 : True := trivial
theorem hd.tw17047115858639842297 : True := trivial
theorem hd.tw17420951861521290806 : True := trivial
theorem hd.tw6060742912462422084 : True := trivial
theorem hd.tw2457190517430149469 : True := trivial
theorem hd.tw1118553966540926140 : True := trivial
theorem hd.tw9783614193127449063 : True := trivial
theorem hd.tw5635641802508607975 : True := trivial
theorem hd.tw13483081372092288885 : True := trivial
theorem hd.tw8977307856219701671 : True := trivial
theorem hd.tw4706079058837389440 : True := trivial
theorem hd.tw14060154772996877548 : True := trivial
theorem hd.tw8727321023445011275 : True := trivial
theorem hd.tw7654286748164834634 : True := trivial
theorem hd.tw9244321171653502345 : True := trivial
theorem hd.tw2274498078352570744 : True := trivial
theorem hd.tw8538877666451538035 : True := trivial
theorem hd.tw3085183777334472315 : True := trivial
theorem hd.tw5318216170032084099 : True := trivial
theorem hd.tw1129884963351977449 : True := trivial
theorem hd.tw1563692795949630186 : True := trivial
theorem hd.tw7085514621470718492 : True := trivial
theorem hd.tw16006246977917349235 : True := trivial
theorem hd.tw6830512106363814048 : True := trivial
theorem hd.tw13855946660403688772 : True := trivial
theorem hd.tw12274583820390217901 : True := trivial
theorem hd.tw5245234834050458271 : True := trivial
theorem hd.tw10258999931320997221 : True := trivial
theorem hd.tw10170382586518783626 : True := trivial
theorem hd.tw2284436838669742495 : True := trivial
theorem hd.tw15166520500009309586 : True := trivial
theorem hd.tw8351282476255451920 : True := trivial
theorem hd.tw17574625026820762457 : True := trivial
theorem hd.tw16412773359747925120 : True := trivial
theorem hd.tw16794629799341752650 : True := trivial
theorem hd.tw17673860158736603733 : True := trivial
theorem hd.tw3434918251397683217 : True := trivial
theorem hd.tw10403243965636340961 : True := trivial
theorem hd.tw4225703048834024713 : True := trivial
theorem hd.tw4172343393113369950 : True := trivial
theorem hd.tw4015398097383911347 : True := trivial
theorem hd.tw12393119488966705847 : True := trivial
theorem hd.tw16945582573551092051 : True := trivial
theorem hd.tw1425423193147277237 : True := trivial
theorem hd.tw2497886572913372520 : True := trivial
theorem hd.tw3828038474966422129 : True := trivial
theorem hd.tw9430268157657104642 : True := trivial
theorem hd.tw8004679753235328684 : True := trivial
theorem hd.tw881544763273948857 : True := trivial
theorem hd.tw12058812876911547015 : True := trivial
theorem hd.tw17130151131035750659 : True := trivial
theorem hd.tw16853341256802265648 : True := trivial
theorem hd.tw11818894175942126238 : True := trivial
theorem hd.tw13217225542625558698 : True := trivial
theorem hd.tw9386895884608548742 : True := trivial
theorem hd.tw1588505670450824345 : True := trivial
theorem hd.tw15527848837575444561 : True := trivial
theorem hd.tw13638418597567726942 : True := trivial
theorem hd.tw14772383043592177042 : True := trivial
theorem hd.tw3381375190539634487 : True := trivial
theorem hd.tw9983995961361265002 : True := trivial
theorem hd.tw13828106393651249627 : True := trivial
theorem hd.tw14294344414604881677 : True := trivial
theorem hd.tw10727248033764811480 : True := trivial
theorem hd.tw2000490053193787569 : True := trivial
theorem hd.tw16473244170626142550 : True := trivial
theorem hd.tw6186238094035137676 : True := trivial
theorem hd.tw14960593345356199642 : True := trivial
theorem hd.tw4182648748547736412 : True := trivial
theorem hd.tw10743916045514856203 : True := trivial
theorem hd.tw10784824025267889561 : True := trivial
theorem hd.tw14705683404202351889 : True := trivial
theorem hd.tw15508949281206285077 : True := trivial
theorem hd.tw3404104791013757517 : True := trivial
theorem hd.tw4272726840584523970 : True := trivial
theorem hd.tw3513179230801503054 : True := trivial
theorem hd.tw12487502673411948298 : True := trivial
theorem hd.tw3109861748172591687 : True := trivial
theorem hd.tw8652628183442184457 : True := trivial
theorem hd.tw16828841361933241965 : True := trivial
theorem hd.tw15595854959937240912 : True := trivial
theorem hd.tw15083628210047938546 : True := trivial
theorem hd.tw6196171512934965099 : True := trivial
theorem hd.tw13642289790063256904 : True := trivial
theorem hd.tw6898005170327248138 : True := trivial
theorem hd.tw10458740792067480800 : True := trivial
theorem hd.tw128412058910260475 : True := trivial
theorem hd.tw3219085151875037572 : True := trivial
theorem hd.tw17183224562656869120 : True := trivial
theorem hd.tw4449123307109862055 : True := trivial
theorem hd.tw15833661619300960221 : True := trivial
theorem hd.tw11375277706881905925 : True := trivial
theorem hd.tw12394076208661396346 : True := trivial
theorem hd.tw13038990169509382042 : True := trivial
theorem hd.tw17213754286329925777 : True := trivial
theorem hd.tw4643362625855044894 : True := trivial
theorem hd.tw16091413853298234908 : True := trivial
theorem hd.tw5238241317806426387 : True := trivial
theorem hd.tw13931416462566266981 : True := trivial
theorem hd.tw5123450804561740386 : True := trivial
theorem hd.tw8052382678804489345 : True := trivial
theorem hd.tw16904818350239718627 : True := trivial
theorem hd.tw8732637932034684881 : True := trivial
theorem hd.tw4282304852377368616 : True := trivial
theorem hd.tw9013056391748086436 : True := trivial
theorem hd.tw13322179722446271537 : True := trivial
theorem hd.tw402640490398009360 : True := trivial
theorem hd.tw11632984921778587759 : True := trivial
theorem hd.tw2951005344575393816 : True := trivial
theorem hd.tw8716120427605611371 : True := trivial
theorem hd.tw15837987909243819085 : True := trivial
theorem hd.tw8960069828448710407 : True := trivial
theorem hd.tw6882427118574961969 : True := trivial
theorem hd.tw15642763164714097627 : True := trivial
theorem hd.tw2845679848157327705 : True := trivial
theorem hd.tw15279998641719260112 : True := trivial
theorem hd.tw5505005885091257285 : True := trivial
theorem hd.tw3789350110615891812 : True := trivial
theorem hd.tw18293851220164018083 : True := trivial
theorem hd.tw4478166936697009375 : True := trivial
theorem hd.tw15048261121198461528 : True := trivial
theorem hd.tw17491280204586788870 : True := trivial
theorem hd.tw1589133516308662214 : True := trivial
theorem hd.tw15643275761693703936 : True := trivial
theorem hd.tw10781468475247234061 : True := trivial
theorem hd.tw13431754692932380062 : True := trivial
theorem hd.tw14242175395732777974 : True := trivial
theorem hd.tw15675198926951892251 : True := trivial
theorem hd.tw1610171440888473627 : True := trivial
theorem hd.tw9170477692918782315 : True := trivial
theorem hd.tw4478177076189095293 : True := trivial
theorem hd.tw6136932545381038964 : True := trivial
theorem hd.tw15967140613478806237 : True := trivial
theorem hd.tw16194383521188589630 : True := trivial
theorem hd.tw432457690288141553 : True := trivial
theorem hd.tw189712035060473897 : True := trivial
theorem hd.tw17387473266821786944 : True := trivial
theorem hd.tw13220430256171166289 : True := trivial
theorem hd.tw4944386906409230657 : True := trivial
theorem hd.tw6123773746684550334 : True := trivial
theorem hd.tw2735741816244006784 : True := trivial
theorem hd.tw7068711184596962023 : True := trivial
theorem hd.tw1413172679324656950 : True := trivial
theorem hd.tw663384727985864361 : True := trivial
theorem hd.tw9719896912496429819 : True := trivial
theorem hd.tw5902613922787404954 : True := trivial
theorem hd.tw9908193460736022307 : True := trivial
theorem hd.tw442638132926106271 : True := trivial
theorem hd.tw16919406825032445293 : True := trivial
theorem hd.tw3973766799837268725 : True := trivial
theorem hd.tw11713075325732132258 : True := trivial
theorem hd.tw9731375825926819010 : True := trivial
theorem hd.tw1580110805410547442 : True := trivial
theorem hd.tw10583446816852156582 : True := trivial
theorem hd.tw2295870552580634182 : True := trivial
theorem hd.tw10030107230732127627 : True := trivial
theorem hd.tw12949589719889679912 : True := trivial
theorem hd.tw17413551345404909392 : True := trivial
theorem hd.tw250903467453971090 : True := trivial
theorem hd.tw14955159897011116063 : True := trivial
theorem hd.tw1033889070964956483 : True := trivial
theorem hd.tw10246146449241189800 : True := trivial
theorem hd.tw5167245352685981253 : True := trivial
theorem hd.tw12975122674916579299 : True := trivial
theorem hd.tw5130813555471234732 : True := trivial
theorem hd.tw5505332120971382143 : True := trivial
theorem hd.tw7512474625130614241 : True := trivial
theorem hd.tw16259696140248634718 : True := trivial
theorem hd.tw15089522573102190283 : True := trivial
theorem hd.tw11917015161858427179 : True := trivial
theorem hd.tw7382370116671421104 : True := trivial
theorem hd.tw9748044761591592747 : True := trivial
theorem hd.tw16154546982801380032 : True := trivial
theorem hd.tw10292235466723388172 : True := trivial
theorem hd.tw18166333605607142505 : True := trivial
theorem hd.tw17895171251205151618 : True := trivial
theorem hd.tw11513968764499736323 : True := trivial
theorem hd.tw212345690472687942 : True := trivial
theorem hd.tw16299908979028503884 : True := trivial
theorem hd.tw1359830224848277088 : True := trivial
theorem hd.tw11079593142295127227 : True := trivial
theorem hd.tw11054480109507316185 : True := trivial
theorem hd.tw11631947586910100387 : True := trivial
theorem hd.tw14560493823538711346 : True := trivial
theorem hd.tw2386827423013361158 : True := trivial
theorem hd.tw5480042469492414594 : True := trivial
theorem hd.tw16634568088961857937 : True := trivial
theorem hd.tw9398405308114057262 : True := trivial
theorem hd.tw7379015992945566340 : True := trivial
theorem hd.tw5388632664720090651 : True := trivial
theorem hd.tw5629675986466331604 : True := trivial
theorem hd.tw17919194246423945575 : True := trivial
theorem hd.tw2315301623876862497 : True := trivial
theorem hd.tw2101469004524951375 : True := trivial
theorem hd.tw10847404155465417027 : True := trivial
theorem hd.tw6469175993241445255 : True := trivial
theorem hd.tw7598622570094877466 : True := trivial
theorem hd.tw15207398651663016943 : True := trivial
theorem hd.tw8934143017859847078 : True := trivial
theorem hd.tw8025032847418708242 : True := trivial
theorem hd.tw12575139184659369484 : True := trivial
theorem hd.tw6184208073178115725 : True := trivial
theorem hd.tw15422856539912107476 : True := trivial
theorem hd.tw464777395874653626 : True := trivial
theorem hd.tw1013155817946168525 : True := trivial
theorem hd.tw17330945745186091897 : True := trivial
theorem hd.tw16970440968685349367 : True := trivial
theorem hd.tw1409312971732116557 : True := trivial
theorem hd.tw1011335219593555734 : True := trivial
theorem hd.tw5292301768408028288 : True := trivial
theorem hd.tw6683769817339685419 : True := trivial
theorem hd.tw162610821266807592 : True := trivial
theorem hd.tw1954109241102656831 : True := trivial
theorem hd.tw8609351116199087170 : True := trivial
theorem hd.tw6965799899956892507 : True := trivial
theorem hd.tw18093812233618175256 : True := trivial
theorem hd.tw12399718760709695909 : True := trivial
theorem hd.tw1222794163293265305 : True := trivial
theorem hd.tw5054737718236178183 : True := trivial
theorem hd.tw9763420282994701918 : True := trivial
theorem hd.tw17672654358674132775 : True := trivial
theorem hd.tw8735263284916673568 : True := trivial
theorem hd.tw13267510147771200024 : True := trivial
theorem hd.tw14906377314874228009 : True := trivial
theorem hd.tw15042006015671813226 : True := trivial
theorem hd.tw15910714762333108613 : True := trivial
theorem hd.tw257007361410690125 : True := trivial
theorem hd.tw17491317419825422843 : True := trivial
theorem hd.tw16694946328126371552 : True := trivial
theorem hd.tw17681399029576232318 : True := trivial
theorem hd.tw10203026625882799534 : True := trivial
theorem hd.tw9132557439983319658 : True := trivial
theorem hd.tw2930668341846507884 : True := trivial
theorem hd.tw13277076834127875243 : True := trivial
theorem hd.tw13783031573616600631 : True := trivial
theorem hd.tw15220180469806662145 : True := trivial
theorem hd.tw280609765759037681 : True := trivial
theorem hd.tw7023726343779634624 : True := trivial
theorem hd.tw1331086792558400476 : True := trivial
theorem hd.tw16178712458983371728 : True := trivial
theorem hd.tw7152984921513172624 : True := trivial
theorem hd.tw13315533130655954831 : True := trivial
theorem hd.tw7880807054014371918 : True := trivial
theorem hd.tw3309697970292668127 : True := trivial
theorem hd.tw7270182246851987180 : True := trivial
theorem hd.tw12614811148066621264 : True := trivial
theorem hd.tw13289513938125300765 : True := trivial
theorem hd.tw12127338746724423809 : True := trivial
theorem hd.tw6140570298594658328 : True := trivial
theorem hd.tw9741134391959003819 : True := trivial
theorem hd.tw9496365245306024149 : True := trivial
theorem hd.tw14553816603554493358 : True := trivial
theorem hd.tw15992342658441690333 : True := trivial
theorem hd.tw4383666589626881386 : True := trivial
theorem hd.tw17234923516513369237 : True := trivial
theorem hd.tw10949625832625181284 : True := trivial
theorem hd.tw17696971302532935780 : True := trivial
theorem hd.tw11709330566771433103 : True := trivial
theorem hd.tw2480057099694739299 : True := trivial
theorem hd.tw1935123987331468085 : True := trivial
theorem hd.tw15813434630575017362 : True := trivial
theorem hd.tw5976792059365374437 : True := trivial
theorem hd.tw16722109127936396110 : True := trivial
theorem hd.tw12070654863422294720 : True := trivial
theorem hd.tw5657824000916062451 : True := trivial
theorem hd.tw9406673726873002282 : True := trivial
theorem hd.tw11402939732021071671 : True := trivial
theorem hd.tw5608270528595127837 : True := trivial
theorem hd.tw6555240042291301478 : True := trivial
theorem hd.tw6411954120941647267 : True := trivial
theorem hd.tw8516288146210602744 : True := trivial
theorem hd.tw922143313871775805 : True := trivial
theorem hd.tw10792051664901133789 : True := trivial
theorem hd.tw2391449824757734642 : True := trivial
theorem hd.tw17258206423299326598 : True := trivial
theorem hd.tw15416985209724490359 : True := trivial
theorem hd.tw7927469264209771579 : True := trivial
theorem hd.tw3442329435671937591 : True := trivial
theorem hd.tw9298403506768410418 : True := trivial
theorem hd.tw12070051907170230399 : True := trivial
theorem hd.tw11232374478483605306 : True := trivial
theorem hd.tw9267829862720590330 : True := trivial
theorem hd.tw17562767543260142214 : True := trivial
theorem hd.tw6038821095411175016 : True := trivial
theorem hd.tw9990345226319884068 : True := trivial
theorem hd.tw10860895700388868024 : True := trivial
theorem hd.tw7317836474542784337 : True := trivial
theorem hd.tw11587034568685482758 : True := trivial
theorem hd.tw2442259710966052079 : True := trivial
theorem hd.tw16211521421427940678 : True := trivial
theorem hd.tw2603259988358896889 : True := trivial
theorem hd.tw14029546391885035639 : True := trivial
theorem hd.tw2999033326186475339 : True := trivial
theorem hd.tw8664936974563722654 : True := trivial
theorem hd.tw7369741819223213686 : True := trivial
theorem hd.tw185848376630758926 : True := trivial
theorem hd.tw17843490464661113860 : True := trivial
theorem hd.tw5366084841770067474 : True := trivial
theorem hd.tw14745743045033390146 : True := trivial
theorem hd.tw10614716105012338702 : True := trivial
theorem hd.tw17849034182730470276 : True := trivial
theorem hd.tw1800889605409440832 : True := trivial
theorem hd.tw7153062008950511462 : True := trivial
theorem hd.tw1097998534492414930 : True := trivial
theorem hd.tw16007149819294483003 : True := trivial
theorem hd.tw5036846961687405229 : True := trivial
theorem hd.tw8134915037123179040 : True := trivial
theorem hd.tw845060206244984605 : True := trivial
theorem hd.tw2855845756224970109 : True := trivial
theorem hd.tw17903497710992402801 : True := trivial
theorem hd.tw13929354066492186541 : True := trivial
theorem hd.tw9345929723534960622 : True := trivial
theorem hd.tw3919010098100093602 : True := trivial
theorem hd.tw1997569388931296116 : True := trivial
theorem hd.tw17948085552500728524 : True := trivial
theorem hd.tw17054507655720011243 : True := trivial
theorem hd.tw7022753741928958675 : True := trivial
theorem hd.tw5416991563250132298 : True := trivial
theorem hd.tw6412100933407834118 : True := trivial
theorem hd.tw1760603350576429475 : True := trivial
theorem hd.tw3008623586974134963 : True := trivial
theorem hd.tw16920754564084929960 : True := trivial
theorem hd.tw519851828213033955 : True := trivial
theorem hd.tw9617658007855726926 : True := trivial
theorem hd.tw10491609206876299696 : True := trivial
theorem hd.tw17975533764899295144 : True := trivial
theorem hd.tw6804821044290156842 : True := trivial
theorem hd.tw4111692666942324129 : True := trivial
theorem hd.tw16868993833207775613 : True := trivial
theorem hd.tw13321331477185743149 : True := trivial
theorem hd.tw13893168526513508166 : True := trivial
theorem hd.tw9184186324627900627 : True := trivial
theorem hd.tw13363553139645760527 : True := trivial
theorem hd.tw17336936450418997793 : True := trivial
theorem hd.tw1848646778235469078 : True := trivial
theorem hd.tw6759412095888398321 : True := trivial
theorem hd.tw15213948185873263833 : True := trivial
theorem hd.tw8458067239894703972 : True := trivial
theorem hd.tw8226494294326810461 : True := trivial
theorem hd.tw11251137523995926341 : True := trivial
theorem hd.tw16858285156579221889 : True := trivial
theorem hd.tw7679216977031593725 : True := trivial
theorem hd.tw17739348878880393726 : True := trivial
theorem hd.tw11319892378374348655 : True := trivial
theorem hd.tw15790720579355451973 : True := trivial
theorem hd.tw3452082135128663414 : True := trivial
theorem hd.tw728884934406724761 : True := trivial
theorem hd.tw12611767792052310623 : True := trivial
theorem hd.tw17606422857730326317 : True := trivial
theorem hd.tw16401577041283400045 : True := trivial
theorem hd.tw9555612238305686254 : True := trivial
theorem hd.tw13368278939475635651 : True := trivial
theorem hd.tw11465210709893060100 : True := trivial
theorem hd.tw16029623286316568529 : True := trivial
theorem hd.tw3451239065008710300 : True := trivial
theorem hd.tw15344866539931968096 : True := trivial
theorem hd.tw18291419657060728153 : True := trivial
theorem hd.tw11319097763535126812 : True := trivial
theorem hd.tw10738003575532504788 : True := trivial
theorem hd.tw15759970867653108152 : True := trivial
theorem hd.tw6407587892757256292 : True := trivial
theorem hd.tw15411387601460861337 : True := trivial
theorem hd.tw8184699220007379433 : True := trivial
theorem hd.tw4086058157674990017 : True := trivial
theorem hd.tw12239354291974867115 : True := trivial
theorem hd.tw395138700845864316 : True := trivial
theorem hd.tw17429513623812275283 : True := trivial
theorem hd.tw7494724483528729301 : True := trivial
theorem hd.tw13132618709999183898 : True := trivial
theorem hd.tw4159134105002834734 : True := trivial
theorem hd.tw4363365295628954845 : True := trivial
theorem hd.tw9228397985900620932 : True := trivial
theorem hd.tw9673543361469618366 : True := trivial
theorem hd.tw8457440626546761165 : True := trivial
theorem hd.tw8269573656231971908 : True := trivial
theorem hd.tw2799067240506288376 : True := trivial
theorem hd.tw9566141503761928105 : True := trivial
theorem hd.tw14310990316257045121 : True := trivial
theorem hd.tw3571134770919094901 : True := trivial
theorem hd.tw15529170255622000948 : True := trivial
theorem hd.tw4642405928176397000 : True := trivial
theorem hd.tw15946388913382835224 : True := trivial
theorem hd.tw13181700845877081190 : True := trivial
theorem hd.tw16345102440705955213 : True := trivial
theorem hd.tw12647368939536790636 : True := trivial
theorem hd.tw16240987189780228909 : True := trivial
theorem hd.tw7754304195085646258 : True := trivial
theorem hd.tw1197925565968671727 : True := trivial
theorem hd.tw10456413670096429481 : True := trivial
theorem hd.tw15673258824015622330 : True := trivial
theorem hd.tw11968265576560266318 : True := trivial
theorem hd.tw17925215291927510665 : True := trivial
theorem hd.tw8273930003744585626 : True := trivial
theorem hd.tw11754176132448286083 : True := trivial
theorem hd.tw3493717111155160527 : True := trivial
theorem hd.tw12994019391074448376 : True := trivial
theorem hd.tw2783992281797965187 : True := trivial
theorem hd.tw22551697357593593 : True := trivial
theorem hd.tw3795277891434052102 : True := trivial
theorem hd.tw18176940659606848779 : True := trivial
theorem hd.tw18268791191939849864 : True := trivial
theorem hd.tw7525542149764818722 : True := trivial
theorem hd.tw11801993109049149486 : True := trivial
theorem hd.tw5549315172176941698 : True := trivial
theorem hd.tw7534799579077118603 : True := trivial
theorem hd.tw8683856772340465682 : True := trivial
theorem hd.tw6547078798241139092 : True := trivial
theorem hd.tw9533747618267967006 : True := trivial
theorem hd.tw7355570028127101125 : True := trivial
theorem hd.tw6767318904944593275 : True := trivial
theorem hd.tw10601615944963115059 : True := trivial
theorem hd.tw7296583596125217682 : True := trivial
theorem hd.tw10678649693572172417 : True := trivial
theorem hd.tw12268275109542032366 : True := trivial
theorem hd.tw2608437505485318709 : True := trivial
theorem hd.tw541196102884509978 : True := trivial
theorem hd.tw4185656317496899905 : True := trivial
theorem hd.tw3646829019195819677 : True := trivial
theorem hd.tw17177331786930743035 : True := trivial
theorem hd.tw758273949599710562 : True := trivial
theorem hd.tw7289634563603522867 : True := trivial
theorem hd.tw17542962492245011380 : True := trivial
theorem hd.tw11694937313917106138 : True := trivial
theorem hd.tw17252143746492648416 : True := trivial
theorem hd.tw17377529257436501650 : True := trivial
theorem hd.tw12459740579856956213 : True := trivial
theorem hd.tw6184460063843016694 : True := trivial
theorem hd.tw14457593812595234344 : True := trivial
theorem hd.tw5343241284826551009 : True := trivial
theorem hd.tw12870888531099404533 : True := trivial
theorem hd.tw2323474266016966308 : True := trivial
theorem hd.tw11162318198679636149 : True := trivial
theorem hd.tw1147470481896660410 : True := trivial
theorem hd.tw3673020696563887462 : True := trivial
theorem hd.tw7578210074245671484 : True := trivial
theorem hd.tw6264232113106981867 : True := trivial
theorem hd.tw18219297243305740317 : True := trivial
theorem hd.tw15367242080415987702 : True := trivial
theorem hd.tw11136197038861592535 : True := trivial
theorem hd.tw18293732401869909652 : True := trivial
theorem hd.tw11660266114150955751 : True := trivial
theorem hd.tw16477043939570097188 : True := trivial
theorem hd.tw16171809288044610508 : True := trivial
theorem hd.tw15615420239508185596 : True := trivial
theorem hd.tw3229955645248102723 : True := trivial
theorem hd.tw10603584201595350602 : True := trivial
theorem hd.tw15948780112781908787 : True := trivial
theorem hd.tw14980023328507725902 : True := trivial
theorem hd.tw12602439190401603521 : True := trivial
theorem hd.tw10806950440038215891 : True := trivial
theorem hd.tw1241404454085649124 : True := trivial
theorem hd.tw4788038989552484473 : True := trivial
theorem hd.tw2329189449893159454 : True := trivial
theorem hd.tw2788664435532181463 : True := trivial
theorem hd.tw13532847315355080253 : True := trivial
theorem hd.tw5190246844813560578 : True := trivial
theorem hd.tw14492701947808656938 : True := trivial
theorem hd.tw14852329139284432860 : True := trivial
theorem hd.tw14103535550066685397 : True := trivial
theorem hd.tw8356816923877370021 : True := trivial
theorem hd.tw26425463804135960 : True := trivial
theorem hd.tw3350844169311001129 : True := trivial
theorem hd.tw15683763237869141255 : True := trivial
theorem hd.tw16432713993328977331 : True := trivial
theorem hd.tw4297731678662094536 : True := trivial
theorem hd.tw12629568148972539762 : True := trivial
theorem hd.tw6755925336976613232 : True := trivial
theorem hd.tw5283464899586487735 : True := trivial
theorem hd.tw876933089483189297 : True := trivial
theorem hd.tw7028611270464810887 : True := trivial
theorem hd.tw16011055738799735888 : True := trivial
theorem hd.tw1194904439430580092 : True := trivial
theorem hd.tw4654797750381630734 : True := trivial
theorem hd.tw17070941380808615275 : True := trivial
theorem hd.tw12113243949977362033 : True := trivial
theorem hd.tw9153386212771759811 : True := trivial
theorem hd.tw8228950375871286339 : True := trivial
theorem hd.tw1043307727769730188 : True := trivial
theorem hd.tw10879034167726328663 : True := trivial
theorem hd.tw6578402527460240241 : True := trivial
theorem hd.tw16064382804478563927 : True := trivial
theorem hd.tw18362790893298522503 : True := trivial
theorem hd.tw6394381022753523788 : True := trivial
theorem hd.tw4068527845204499245 : True := trivial
theorem hd.tw17062030032774818151 : True := trivial
theorem hd.tw2252305205657439004 : True := trivial
theorem hd.tw2708950531961675432 : True := trivial
theorem hd.tw4494801613693538912 : True := trivial
theorem hd.tw7526368328331116154 : True := trivial
theorem hd.tw10424393626065333798 : True := trivial
theorem hd.tw11551083187376567056 : True := trivial
theorem hd.tw1439246655266547700 : True := trivial
theorem hd.tw6438293893037913957 : True := trivial
theorem hd.tw14685462170515437407 : True := trivial
theorem hd.tw3429492842335990350 : True := trivial
theorem hd.tw12023040214023829324 : True := trivial
theorem hd.tw15745223717542687591 : True := trivial
set_option Elab.async true in
set_option maxHeartbeats 8000000 in
theorem hd : PySem.Challenge.rw_pc0226_01.Holds := by
  w_on; o_law; k_head; (case hw => w_witness2)
  k_go0
  refine wpAny_mono (law_fin (by assumption) (by assumption) (by assumption) (by assumption) (by assumption) (by assumption) (by assumption) (by assumption) (by kernel_rfl) (by kernel_rfl) (by kernel_rfl) ?D (by kernel_rfl) (by kernel_rfl) (by kernel_rfl) (by kernel_rfl) (by kernel_rfl)) (fun f s' h => ?_) fun _ _ h => h
  case D =>
    exact ⟨⟨_, _, _, _, _, _, _, _, _, _, _, _, _, _, _, _, by with_unfolding_all rfl, ⟨rfl, rfl, rfl⟩, rfl⟩, ⟨by kernel_rfl, ⟨_, _, by with_unfolding_all rfl, rfl⟩, by kernel_rfl⟩, 263, 243, 246, _, _, _, by kernel_rfl, by kernel_rfl, by kernel_rfl,
      ⟨_, _, _, _, _, _, _, _, _, _, _, _, _, _, _, _, _, _, _, _, _, _, by with_unfolding_all rfl, ⟨rfl, rfl, rfl, rfl, rfl⟩, by decide, by kernel_rfl, rfl, rfl, by decide, rfl, rfl, rfl, rfl, fun L => .glob rfl (by kernel_rfl) rfl, by kernel_rfl, rfl, rfl⟩,
      ⟨_, _, _, _, _, _, _, _, _, _, _, _, _, _, _, _, _, _, _, _, _, _, by with_unfolding_all rfl, ⟨rfl, rfl, rfl, rfl, rfl⟩, by decide, by kernel_rfl, rfl, rfl, by decide, rfl, rfl, rfl, rfl, fun L => .bltn rfl (by kernel_rfl) (by kernel_rfl) (by decide) rfl, by kernel_rfl, rfl, rfl⟩,
      by kernel_rfl, by kernel_rfl, by kernel_rfl, by kernel_rfl, by kernel_rfl, by kernel_rfl⟩
  obtain ⟨hf, m, F, ho, hg'⟩ := h
  subst hf
  refine goodW_bool F (hg'.trans (by assumption)) (raisesW_false ?hn) ?hp ho
  case hn => wrow_none_raised
  case hp => refine' postW_of ?ps ?pv ?pe; (case ps => o_shape); (case pv => wtm_val); (case pe => w_fin)
end
end Mine
theorem PySem.Challenge.cw_pc0226_01_holds : PySem.Challenge.rw_pc0226_01.Holds :=
  Mine.hd
