import PyProof.Rows.All
import Wide.All
import OpenK.AllK
import Wide.FinOn
import HandS.ForMost
import PySem.Challenge.RW_askedfor_k09_large_types
import HandS.Exc
import HandS.ExcOwn
import HandS.WordsExc
import KE.GoesComp
import KE.GoesRaise
import HandS.ExcInit
import KE.KExcSuper
import HandS.ExcIs
import HandS.ExcField
import KE.KExcIs
import HandS.More
import HandS.Zip
import HandS.Conv
set_option Elab.async false
set_option linter.all false
set_option maxRecDepth 100000
set_option maxHeartbeats 8000000
/-! The mirror: infer as plain Lean functions, for the fragment of the language that the law builds; and the law's answers by it. -/
namespace K9
inductive Ty where
  | int | bool | unit
  | var (n : Nat)
  | pair (a b : Ty)
  | fn (a : Ty) (r : Nat) (b : Ty)
  deriving DecidableEq
/-- types without variables -/
inductive RT where
  | int | bool | unit
  | pair (a b : RT)
  | fn (a b : RT)
  deriving DecidableEq
/-- a name: v0 .. v19, x, y, u -/
abbrev Nm := _root_.Fin 23
inductive Exp where
  | num (n : Int)
  | name (x : Nm)
  | fn (x : Nm) (e : Exp)
  | letE (x : Nm) (e f : Exp)
  | pair (e f : Exp)
  | fst (e : Exp)
  | not (e : Exp)
  | call (f e : Exp)
def Exp.dep : Exp → Nat
  | .num _ => 1
  | .name _ => 1
  | .fn _ e => e.dep + 1
  | .letE _ e f => max e.dep f.dep + 1
  | .pair e f => max e.dep f.dep + 1
  | .fst e => e.dep + 1
  | .not e => e.dep + 1
  | .call e f => max e.dep f.dep + 1
abbrev Ms := List (Option Ty)
/-- the conditions so far: what variables stand for; rows that are the same; flows; types and rows of the expressions -/
structure S where
  ms : Ms
  links : List Nat
  flows : List (Nat × Nat)
  ts : List (Option Ty)
  own : List Nat
def Ty.dep : Ty → Nat
  | .pair a b => max a.dep b.dep + 1
  | .fn a _ b => max a.dep b.dep + 1
  | _ => 1
def hd (ms : Ms) : Nat → Ty → Option Ty
  | 0, _ => none
  | n + 1, .var i => match ms[i]? with
    | none => none
    | some none => some (.var i)
    | some (some t) => hd ms n t
  | _ + 1, t => some t
/-- a variable does not occur -/
def noocc (ms : Ms) (v : Nat) : Nat → Ty → Bool
  | 0, _ => false
  | n + 1, t => match hd ms 30 t with
    | none => false
    | some (.var i) => i != v
    | some (.pair a b) => decide ((Ty.pair a b).dep ≤ 30) && (noocc ms v n a && noocc ms v n b)
    | some (.fn a r b) => decide ((Ty.fn a r b).dep ≤ 30) && (noocc ms v n a && noocc ms v n b)
    | some _ => true
def sz (ms : Ms) : Nat → Ty → Option Nat
  | 0, _ => none
  | n + 1, t => match hd ms 30 t with
    | none => none
    | some (.pair a b) => (sz ms n a).bind fun x => (sz ms n b).bind fun y => some (1 + x + y)
    | some (.fn a _ b) => (sz ms n a).bind fun x => (sz ms n b).bind fun y => some (1 + x + y)
    | some _ => some 1
def res (ms : Ms) (nl : Nat) : Nat → Ty → Option RT
  | 0, _ => none
  | n + 1, t => match hd ms 30 t with
    | none => none
    | some (.pair a b) => (res ms nl n a).bind fun x => (res ms nl n b).bind fun y => some (.pair x y)
    | some (.fn a r b) => if r < nl then (res ms nl n a).bind fun x => (res ms nl n b).bind fun y => some (.fn x y) else none
    | some (.var _) => some .unit
    | some .int => some .int
    | some .bool => some .bool
    | some .unit => some .unit
def bind (s : S) (i : Nat) (t : Ty) : Option S :=
  if noocc s.ms i 30 t = true ∧ i < s.ms.length then some { s with ms := s.ms.set i (some t) } else none
def root (links : List Nat) : Nat → Nat → Option Nat
  | 0, _ => none
  | n + 1, r => match links[r]? with
    | none => none
    | some q => if q = r then some r else root links n q
def same (s : S) (a b : Nat) : Option S :=
  (root s.links 10 a).bind fun x => (root s.links 10 b).bind fun y => some { s with links := s.links.set x y }
def unify : Nat → S → Ty → Ty → Option S
  | 0, _, _, _ => none
  | n + 1, s, a, b => (hd s.ms 30 a).bind fun a => (hd s.ms 30 b).bind fun b =>
    if a.dep ≤ 30 ∧ b.dep ≤ 30 then
      if a = b then some s else
      match a, b with
      | .var i, b => bind s i b
      | a, .var j => bind s j a
      | .fn a r b, .fn a' r' b' => (same s r r').bind fun s => (unify n s a a').bind fun s => unify n s b b'
      | .pair a b, .pair a' b' => (unify n s a a').bind fun s => unify n s b b'
      | _, _ => none
    else none
def fresh (s : S) : Option S := if s.ms.length < 1000 then some { s with ms := s.ms ++ [none] } else none
def freshR (s : S) : Option S := if s.links.length < 1000 then some { s with links := s.links ++ [s.links.length] } else none
def flow (s : S) (a b : Nat) : Option S := if s.flows.length < 1000 then some { s with flows := s.flows ++ [(a, b)] } else none
def typ (s : S) (n : Nat) : Option Ty := (s.ts[n]?).bind id
def fits (s : S) (n : Nat) (t : Ty) : Option S := (typ s n).bind fun u => unify 30 s u t
/-- none: not covered; some none: Unbounded("types") is raised -/
abbrev R (α : Type) := Option (Option α)
def R.bind {α β : Type} (x : R α) (f : α → R β) : R β := match x with
  | none => none
  | some none => some none
  | some (some a) => f a
def lift {α β : Type} (x : Option α) (f : α → R β) : R β := match x with
  | none => none
  | some a => f a
abbrev Ev := List (Nm × Ty)
abbrev Jd := Ev → Nat → S → R (Ty × S)
/-- self.types.append(None); self.own_rows.append(self.rows.fresh()) -/
def enter (s : S) : Option S :=
  if s.ts.length < 1000 ∧ s.own.length < 1000 then (freshR { s with ts := s.ts ++ [none] }).bind fun s' => some { s' with own := s'.own ++ [s.links.length] } else none
def leave (n : Nat) (t : Ty) (s : S) : R S :=
  if n < s.ts.length then
    lift (sz s.ms 30 t) fun k => if k ≤ 1000 then some (some { s with ts := s.ts.set n (some t) }) else some none
  else none
def visitBy (j : Jd) (env : Ev) (s : S) : R S := lift (enter s) fun s1 => R.bind (j env s.ts.length s1) fun p => leave s.ts.length p.1 p.2
def partBy (j : Jd) (env : Ev) (n : Nat) (s : S) : R S :=
  R.bind (visitBy j env s) fun s' => lift s'.own[s.ts.length]? fun a => lift s'.own[n]? fun b => lift (flow s' a b) fun s'' => some (some s'')
def partsBy : List Jd → Ev → Nat → S → R (List Nat × S)
  | [], _, _, s => some (some ([], s))
  | j :: js, env, n, s => R.bind (partBy j env n s) fun s' => R.bind (partsBy js env n s') fun p => some (some (s.ts.length :: p.1, p.2))
inductive Hd where
  | call | pair | fst | not
def composed (h : Hd) (inner : List Nat) (n : Nat) (s : S) : Option (Ty × S) :=
  match h, inner with
  | .call, [m, m'] => (typ s m).bind fun _ => (typ s m').bind fun u => (fresh s).bind fun s1 => (freshR s1).bind fun s2 => (s2.own[n]?).bind fun b =>
      (flow s2 s1.links.length b).bind fun s3 => (fits s3 m (.fn u s1.links.length (.var s.ms.length))).bind fun s4 => some (.var s.ms.length, s4)
  | .pair, [m, m'] => (typ s m).bind fun t => (typ s m').bind fun u => some (.pair t u, s)
  | .fst, [m] => (typ s m).bind fun _ => (fresh s).bind fun s1 => (fresh s1).bind fun s2 => (fits s2 m (.pair (.var s.ms.length) (.var s1.ms.length))).bind fun s3 => some (.var s.ms.length, s3)
  | .not, [m] => (typ s m).bind fun _ => (fits s m .bool).bind fun s1 => some (.bool, s1)
  | _, _ => none
def function (j : Jd) (x : Nm) (env : Ev) (s : S) : R (Ty × S) :=
  lift (fresh s) fun s1 => lift (fresh s1) fun s2 => lift (freshR s2) fun s3 =>
    R.bind (visitBy j ((x, .var s.ms.length) :: env) s3) fun s4 =>
      lift s4.own[s3.ts.length]? fun a => lift (flow s4 a s2.links.length) fun s5 => lift (fits s5 s3.ts.length (.var s1.ms.length)) fun s6 =>
        some (some (.fn (.var s.ms.length) s2.links.length (.var s1.ms.length), s6))
def judge : Exp → Jd
  | .num _, _, _, s => some (some (.int, s))
  | .name x, env, _, s => lift (env.lookup x) fun t => some (some (t, s))
  | .fn x e, env, _, s => function (judge e) x env s
  | .letE x e f, env, n, s => R.bind (partBy (judge e) env n s) fun s1 => lift (typ s1 s.ts.length) fun t =>
      R.bind (partBy (judge f) ((x, t) :: env) n s1) fun s2 => lift (typ s2 s1.ts.length) fun u => some (some (u, s2))
  | .pair e f, env, n, s => R.bind (partsBy [judge e, judge f] env n s) fun p => lift (composed .pair p.1 n p.2) fun q => some (some q)
  | .fst e, env, n, s => R.bind (partsBy [judge e] env n s) fun p => lift (composed .fst p.1 n p.2) fun q => some (some q)
  | .not e, env, n, s => R.bind (partsBy [judge e] env n s) fun p => lift (composed .not p.1 n p.2) fun q => some (some q)
  | .call e f, env, n, s => R.bind (partsBy [judge e, judge f] env n s) fun p => lift (composed .call p.1 n p.2) fun q => some (some q)
def visit (e : Exp) (env : Ev) (s : S) : R S := visitBy (judge e) env s
def sizes (ms : Ms) : List (Option Ty) → R Unit
  | [] => some (some ())
  | none :: _ => none
  | some t :: l => lift (sz ms 30 t) fun k => if k ≤ 1000 then sizes ms l else some none
def flowsOk (links : List Nat) (l : List (Nat × Nat)) : Bool := l.all fun p => (root links 10 p.1).isSome && (root links 10 p.2).isSome
def rootsOk (links : List Nat) : Bool := (List.range links.length).all fun i => (root links 10 i).isSome
def settled (ms : Ms) (nl : Nat) : List (Option Ty) → Option (List RT)
  | [] => some []
  | none :: _ => none
  | some t :: l => (res ms nl 30 t).bind fun x => (settled ms nl l).bind fun xs => some (x :: xs)
def S0 : S := ⟨[], [], [], [], []⟩
def infer (e : Exp) : R RT :=
  R.bind (visit e [] S0) fun s => R.bind (sizes s.ms s.ts) fun _ =>
    if (rootsOk s.links && flowsOk s.links s.flows && s.own.all (· < s.links.length) && decide (s.links.length < 1000) && decide (s.ts.length < 1000) && decide (s.own.length < 1000)) = true then
      lift (settled s.ms s.links.length s.ts) fun l => lift l.head? fun t => some (some t)
    else none
/-! what the law builds -/
def nx : Nm := 20
def ny : Nm := 21
def nu : Nm := 22
def vn (i : Nat) : Nm := _root_.Fin.ofNat 23 i
def value : Nat → Exp
  | 0 => .num 1
  | 1 => .fn nx (.not (.name nx))
  | _ => .pair (.num 1) (.num 2)
def known : Nat → RT
  | 0 => .int
  | 1 => .fn .bool .bool
  | _ => .pair .int .int
/-- k rounds of the loop over range(d) -/
def chainB (d : Nat) : Nat → Exp → Exp
  | 0, b => b
  | k + 1, b => .letE (vn (d - k)) (.pair (.name (vn (d - k - 1))) (.name (vn (d - k - 1)))) (chainB d k b)
def chain (v : Exp) (d : Nat) (last : Exp) : Exp := .letE (vn 0) v (chainB d d last)
def due (t : RT) : Nat → RT
  | 0 => t
  | k + 1 => .pair (due t k) (due t k)
def rsz : RT → Nat
  | .pair a b => 1 + rsz a + rsz b
  | .fn a b => 1 + rsz a + rsz b
  | _ => 1
def szk (s : Nat) : Nat → Nat
  | 0 => s
  | k + 1 => 2 * szk s k + 1
def one (d k : Nat) : Bool :=
  if szk (rsz (known k)) d > 1000 then decide (infer (chain (value k) d (.name (vn d))) = some none) else decide (infer (chain (value k) d (.name (vn d))) = some (some (due (known k) d)))
def called (d k i : Nat) : Exp := .call (.fn ny (.letE nu (chain (.name ny) d (.fst (.name (vn d)))) (.num 3))) (chain (value k) i (.name (vn 1)))
def two (d k i : Nat) : Bool :=
  if szk (2 * rsz (known k) + 1) d > 1000 then decide (infer (called d k i) = some none) else decide (infer (called d k i) = some (some .int))
theorem dep_one : ∀ k < 3, ∀ d < 14, (chain (value k) (d + 1) (.name (vn (d + 1)))).dep ≤ 25 := by decide +kernel
theorem dep_two : ∀ k < 3, ∀ d < 14, ∀ i < 4, (called (d + 1) k (i + 1)).dep ≤ 25 := by decide +kernel
theorem one_all : ∀ k < 3, ∀ d < 14, one (d + 1) k = true := by decide +kernel
theorem two_all : ∀ k < 3, ∀ d < 14, ∀ i < 4, two (d + 1) k (i + 1) = true := by decide +kernel
end K9
namespace K9
open PySem L2
/-! The text by places. -/
def top (i : Nat) : Stmt := PySem.Challenge.pw_askedfor_k09_large_types.main.body.getD i (.Pass ⟨0, 0, 0, 0⟩)
abbrev sUnb : Stmt := inClass (top 6) 0
abbrev sRinit : Stmt := inClass (top 8) 0
abbrev sRfresh : Stmt := inClass (top 8) 1
abbrev sRroot : Stmt := inClass (top 8) 2
abbrev sRcontain : Stmt := inClass (top 8) 3
abbrev sRflow : Stmt := inClass (top 8) 4
abbrev sRsame : Stmt := inClass (top 8) 5
abbrev sRleast : Stmt := inClass (top 8) 6
abbrev sKinit : Stmt := inClass (top 11) 0
abbrev sKfresh : Stmt := inClass (top 11) 1
abbrev sKseen : Stmt := inClass (top 11) 2
abbrev sKinner : Stmt := inClass (top 11) 3
abbrev sKcontains : Stmt := inClass (top 11) 4
abbrev sKunify : Stmt := inClass (top 11) 5
abbrev sKbind : Stmt := inClass (top 11) 6
abbrev sKsize : Stmt := inClass (top 11) 7
abbrev sKsettled : Stmt := inClass (top 11) 8
abbrev sSigs : Stmt := top 18
abbrev sLooked : Stmt := top 19
abbrev sIinit : Stmt := inClass (top 20) 0
abbrev sIvisit : Stmt := inClass (top 20) 1
abbrev sIpart : Stmt := inClass (top 20) 2
abbrev sIfits : Stmt := inClass (top 20) 3
abbrev sIjudged : Stmt := inClass (top 20) 4
abbrev sIfunction : Stmt := inClass (top 20) 5
abbrev sIoperated : Stmt := inClass (top 20) 6
abbrev sIcomposed : Stmt := inClass (top 20) 7
abbrev sInfer : Stmt := top 21
abbrev sLstate : Stmt := top 23
abbrev sLtake : Stmt := top 24
abbrev sLchain : Stmt := top 25
abbrev sLsize : Stmt := top 26
abbrev sLtold : Stmt := top 27
abbrev sLdue : Stmt := top 28
abbrev sLaw : Stmt := top 29
end K9
/-! How types, expressions, bindings and the state of the conditions stand in the heap. -/
namespace K9
open PySem L2
/-! ### names -/
def nmL : List Str := ["v0", "v1", "v2", "v3", "v4", "v5", "v6", "v7", "v8", "v9", "v10", "v11", "v12", "v13", "v14", "v15", "v16", "v17", "v18", "v19", "x", "y", "u"]
def nm (x : Nm) : Str := nmL.getD x.val ""
theorem nm_inj : ∀ a b : Nm, nm a = nm b → a = b := by decide +kernel
theorem nm_dec (a b : Nm) : decide (V.str (nm a) = V.str (nm b)) = decide (a = b) := by
  by_cases h : a = b
  · rw [h, decide_eq_true rfl, decide_eq_true rfl]
  · rw [decide_eq_false h, decide_eq_false (fun z => h (nm_inj _ _ (V.str.inj z)))]
/-! ### tuples that are read -/
def Tp (K : PySem.W.Frag) (H : Hp) (a : Addr) (xs : List V) : Prop :=
  H a = some (.tup xs) ∨ ∃ (o : Obj) (its : Array Value) (n : Nat), K.lookup a = some o ∧ o.cls = .type "tuple" ∧ o.data = .seq its n ∧ its.size ≤ sizeLine ∧ Vals xs its.toList
theorem Tp.sq {K : PySem.W.Frag} {H : Hp} {a : Addr} {xs : List V} (h : Tp K H a xs) : SqT K H a xs := h.elim (fun z => .inl (.inl z)) .inr
theorem Tp.of {K : PySem.W.Frag} {H : Hp} {a : Addr} {xs : List V} (h : H a = some (.tup xs)) : Tp K H a xs := .inl h
/-- tuples stay -/
def Ext (H H' : Hp) : Prop := ∀ b xs, H b = some (.tup xs) → H' b = some (.tup xs)
theorem Ext.refl (H : Hp) : Ext H H := fun _ _ h => h
theorem Ext.trans {H H1 H2 : Hp} (a : Ext H H1) (b : Ext H1 H2) : Ext H H2 := fun c xs h => b c xs (a c xs h)
theorem Tp.ext {K : PySem.W.Frag} {H H' : Hp} {a : Addr} {xs : List V} (h : Tp K H a xs) (e : Ext H H') : Tp K H' a xs := h.elim (fun z => .inl (e _ _ z)) .inr
/-! ### types -/
def TyAt (K : PySem.W.Frag) (H : Hp) : Ty → V → Prop
  | .int, v => ∃ a, v = .ref a ∧ Tp K H a [.str "int"]
  | .bool, v => ∃ a, v = .ref a ∧ Tp K H a [.str "bool"]
  | .unit, v => ∃ a, v = .ref a ∧ Tp K H a [.str "unit"]
  | .var n, v => ∃ a, v = .ref a ∧ Tp K H a [.str "var", .int (n : Nat)]
  | .pair x y, v => ∃ a vx vy, v = .ref a ∧ Tp K H a [.str "pair", vx, vy] ∧ TyAt K H x vx ∧ TyAt K H y vy
  | .fn x r y, v => ∃ a vx vy, v = .ref a ∧ Tp K H a [.str "fun", vx, .int (r : Nat), vy] ∧ TyAt K H x vx ∧ TyAt K H y vy
theorem TyAt.ext {K : PySem.W.Frag} {H H' : Hp} (e : Ext H H') : ∀ {t : Ty} {v : V}, TyAt K H t v → TyAt K H' t v
  | .int, _, ⟨a, h1, h2⟩ => ⟨a, h1, h2.ext e⟩
  | .bool, _, ⟨a, h1, h2⟩ => ⟨a, h1, h2.ext e⟩
  | .unit, _, ⟨a, h1, h2⟩ => ⟨a, h1, h2.ext e⟩
  | .var _, _, ⟨a, h1, h2⟩ => ⟨a, h1, h2.ext e⟩
  | .pair _ _, _, ⟨a, vx, vy, h1, h2, h3, h4⟩ => ⟨a, vx, vy, h1, h2.ext e, TyAt.ext e h3, TyAt.ext e h4⟩
  | .fn _ _ _, _, ⟨a, vx, vy, h1, h2, h3, h4⟩ => ⟨a, vx, vy, h1, h2.ext e, TyAt.ext e h3, TyAt.ext e h4⟩
def OTyAt (K : PySem.W.Frag) (H : Hp) : Option Ty → V → Prop
  | none, v => v = .non
  | some t, v => TyAt K H t v
theorem OTyAt.ext {K : PySem.W.Frag} {H H' : Hp} (e : Ext H H') {t : Option Ty} {v : V} (h : OTyAt K H t v) : OTyAt K H' t v := by
  cases t with
  | none => exact h
  | some t => exact TyAt.ext e h
/-- a type's head -/
def Ty.head : Ty → Str
  | .int => "int" | .bool => "bool" | .unit => "unit" | .var _ => "var" | .pair _ _ => "pair" | .fn _ _ _ => "fun"
/-- a type is a tuple that begins with its head -/
theorem TyAt.tup {K : PySem.W.Frag} {H : Hp} {t : Ty} {v : V} (h : TyAt K H t v) : ∃ a xs, v = .ref a ∧ Tp K H a (.str t.head :: xs) := by
  cases t with
  | int => obtain ⟨a, h1, h2⟩ := h; exact ⟨a, _, h1, h2⟩
  | bool => obtain ⟨a, h1, h2⟩ := h; exact ⟨a, _, h1, h2⟩
  | unit => obtain ⟨a, h1, h2⟩ := h; exact ⟨a, _, h1, h2⟩
  | var n => obtain ⟨a, h1, h2⟩ := h; exact ⟨a, _, h1, h2⟩
  | pair x y => obtain ⟨a, vx, vy, h1, h2, _⟩ := h; exact ⟨a, _, h1, h2⟩
  | fn x r y => obtain ⟨a, vx, vy, h1, h2, _⟩ := h; exact ⟨a, _, h1, h2⟩
/-! ### types as data -/
def Ty.data : Ty → PyData
  | .int => .tuple [.str "int"] | .bool => .tuple [.str "bool"] | .unit => .tuple [.str "unit"] | .var n => .tuple [.str "var", .int (n : Nat)]
  | .pair x y => .tuple [.str "pair", x.data, y.data] | .fn x r y => .tuple [.str "fun", x.data, .int (r : Nat), y.data]
theorem TyAt.dp {K : PySem.W.Frag} {H : Hp} : ∀ {t : Ty} {v : V}, TyAt K H t v → Dp K H v t.data
  | .int, _, ⟨a, h1, h2⟩ => by subst h1; exact .tup h2.sq (.cons (.str _) .nil)
  | .bool, _, ⟨a, h1, h2⟩ => by subst h1; exact .tup h2.sq (.cons (.str _) .nil)
  | .unit, _, ⟨a, h1, h2⟩ => by subst h1; exact .tup h2.sq (.cons (.str _) .nil)
  | .var _, _, ⟨a, h1, h2⟩ => by subst h1; exact .tup h2.sq (.cons (.str _) (.cons (.int _) .nil))
  | .pair _ _, _, ⟨a, vx, vy, h1, h2, h3, h4⟩ => by subst h1; exact .tup h2.sq (.cons (.str _) (.cons (TyAt.dp h3) (.cons (TyAt.dp h4) .nil)))
  | .fn _ _ _, _, ⟨a, vx, vy, h1, h2, h3, h4⟩ => by subst h1; exact .tup h2.sq (.cons (.str _) (.cons (TyAt.dp h3) (.cons (.int _) (.cons (TyAt.dp h4) .nil))))
theorem Ty.data_lay : ∀ t : Ty, t.data.canLay0 = true
  | .int => by decide +kernel
  | .bool => by decide +kernel
  | .unit => by decide +kernel
  | .var _ => by
    show (PyData.canLay0 (.str "var") && (PyData.canLay0 (.int _) && true)) = true
    rw [show PyData.canLay0 (.str "var") = true by decide +kernel]
    rfl
  | .pair x y => by
    show (PyData.canLay0 (.str "pair") && (PyData.canLay0 x.data && (PyData.canLay0 y.data && true))) = true
    rw [show PyData.canLay0 (.str "pair") = true by decide +kernel, Ty.data_lay x, Ty.data_lay y]
    rfl
  | .fn x r y => by
    show (PyData.canLay0 (.str "fun") && (PyData.canLay0 x.data && (PyData.canLay0 (.int _) && (PyData.canLay0 y.data && true)))) = true
    rw [show PyData.canLay0 (.str "fun") = true by decide +kernel, Ty.data_lay x, Ty.data_lay y]
    rfl
theorem Ty.data_dep : ∀ t : Ty, t.data.depth ≤ t.dep + 1
  | .int => by decide +kernel
  | .bool => by decide +kernel
  | .unit => by decide +kernel
  | .var _ => by
    simp [Ty.data, PyData.depth, PyData.depthAll, Ty.dep]
  | .pair x y => by
    have h1 := Ty.data_dep x
    have h2 := Ty.data_dep y
    simp only [Ty.data, PyData.depth, PyData.depthAll, Ty.dep]
    omega
  | .fn x r y => by
    have h1 := Ty.data_dep x
    have h2 := Ty.data_dep y
    simp only [Ty.data, PyData.depth, PyData.depthAll, Ty.dep]
    omega
theorem Ty.shaped {t : Ty} (h : t.dep ≤ 30) : SeqAt.shaped t.data = true := by
  unfold SeqAt.shaped
  rw [Ty.data_lay, decide_eq_true (by have := Ty.data_dep t; omega)]
  rfl
/-- a type's data: the head, then the rest -/
def Ty.rest : Ty → List PyData
  | .int => [] | .bool => [] | .unit => [] | .var n => [.int (n : Nat)]
  | .pair x y => [x.data, y.data] | .fn x r y => [x.data, .int (r : Nat), y.data]
theorem Ty.data_eq (t : Ty) : t.data = .tuple (.str t.head :: t.rest) := by cases t <;> rfl
theorem eqv_tuple (xs ys : List PyData) : PyData.eqv (.tuple xs) (.tuple ys) = PyData.eqvAll xs ys := by simp only [PyData.eqv]
theorem eqv_cons (x y : PyData) (xs ys : List PyData) : PyData.eqvAll (x :: xs) (y :: ys) = (PyData.eqv x y && PyData.eqvAll xs ys) := by simp only [PyData.eqvAll]
theorem eqv_nil : PyData.eqvAll [] [] = true := by simp only [PyData.eqvAll]
theorem eqv_str (x y : Str) : PyData.eqv (.str x) (.str y) = decide (x = y) := by
  simp only [PyData.eqv]
  by_cases h : x = y
  · simp [h]
  · rw [decide_eq_false h]
    simpa using h
theorem eqv_int (x y : Int) : PyData.eqv (.int x) (.int y) = decide (x = y) := by
  simp only [PyData.eqv]
  by_cases h : x = y
  · simp [h]
  · rw [decide_eq_false h]
    simpa using h
theorem eqv_nat (x y : Nat) : PyData.eqv (.int (x : Nat)) (.int (y : Nat)) = decide (x = y) := by
  rw [eqv_int]
  by_cases h : x = y
  · rw [decide_eq_true h, decide_eq_true (by rw [h])]
  · rw [decide_eq_false h, decide_eq_false (by omega)]
def Ty.hc : Ty → Nat
  | .int => 0 | .bool => 1 | .unit => 2 | .var _ => 3 | .pair _ _ => 4 | .fn _ _ _ => 5
def hs (i : Nat) : Str := (["int", "bool", "unit", "var", "pair", "fun"] : List Str).getD i ""
theorem hs_ne : ∀ i < 6, ∀ j < 6, i ≠ j → hs i ≠ hs j := by decide +kernel
theorem Ty.head_hs (t : Ty) : t.head = hs t.hc ∧ t.hc < 6 := by cases t <;> exact ⟨rfl, by simp [Ty.hc]⟩
theorem head_ne' {a b : Ty} (h : a.hc ≠ b.hc) : a.head ≠ b.head := by
  rw [(Ty.head_hs a).1, (Ty.head_hs b).1]
  exact hs_ne _ (Ty.head_hs a).2 _ (Ty.head_hs b).2 h
theorem head_dec (a b : Ty) : decide (V.str a.head = V.str b.head) = decide (a.hc = b.hc) := by
  by_cases h : a.hc = b.hc
  · rw [decide_eq_true h, decide_eq_true (by rw [(Ty.head_hs a).1, (Ty.head_hs b).1, h])]
  · rw [decide_eq_false h, decide_eq_false (fun z => head_ne' h (V.str.inj z))]
theorem head_ne {a b : Ty} (h : a.hc ≠ b.hc) : PyData.eqv a.data b.data = false := by
  rw [Ty.data_eq a, Ty.data_eq b, eqv_tuple, eqv_cons, eqv_str, decide_eq_false (head_ne' h)]
  rfl
theorem eqv_data : ∀ a b : Ty, PyData.eqv a.data b.data = decide (a = b) := by
  intro a
  induction a with
  | int => intro b; cases b <;> first | (rw [decide_eq_true rfl]; decide +kernel) | (rw [decide_eq_false (by intro z; cases z)]; exact head_ne (by simp [Ty.hc]))
  | bool => intro b; cases b <;> first | (rw [decide_eq_true rfl]; decide +kernel) | (rw [decide_eq_false (by intro z; cases z)]; exact head_ne (by simp [Ty.hc]))
  | unit => intro b; cases b <;> first | (rw [decide_eq_true rfl]; decide +kernel) | (rw [decide_eq_false (by intro z; cases z)]; exact head_ne (by simp [Ty.hc]))
  | var n =>
    intro b
    cases b with
    | var m =>
      show PyData.eqv (.tuple [.str "var", .int (n : Nat)]) (.tuple [.str "var", .int (m : Nat)]) = _
      rw [eqv_tuple, eqv_cons, eqv_cons, eqv_nil, eqv_str, eqv_nat, decide_eq_true rfl, Bool.true_and, Bool.and_true]
      by_cases h : n = m
      · rw [decide_eq_true h, decide_eq_true (by rw [h])]
      · rw [decide_eq_false h, decide_eq_false (by intro z; cases z; exact h rfl)]
    | _ => rw [decide_eq_false (by intro z; cases z)]; exact head_ne (by simp [Ty.hc])
  | pair x y ihx ihy =>
    intro b
    cases b with
    | pair x' y' =>
      show PyData.eqv (.tuple [.str "pair", x.data, y.data]) (.tuple [.str "pair", x'.data, y'.data]) = _
      rw [eqv_tuple, eqv_cons, eqv_cons, eqv_cons, eqv_nil, eqv_str, decide_eq_true rfl, Bool.true_and, Bool.and_true, ihx, ihy]
      by_cases h : x = x'
      · by_cases h' : y = y'
        · rw [decide_eq_true h, decide_eq_true h', decide_eq_true (by rw [h, h'])]; rfl
        · rw [decide_eq_false h', decide_eq_false (fun z => h' (Ty.pair.inj z).2)]; simp
      · rw [decide_eq_false h, decide_eq_false (fun z => h (Ty.pair.inj z).1)]; simp
    | _ => rw [decide_eq_false (by intro z; cases z)]; exact head_ne (by simp [Ty.hc])
  | fn x r y ihx ihy =>
    intro b
    cases b with
    | fn x' r' y' =>
      show PyData.eqv (.tuple [.str "fun", x.data, .int (r : Nat), y.data]) (.tuple [.str "fun", x'.data, .int (r' : Nat), y'.data]) = _
      rw [eqv_tuple, eqv_cons, eqv_cons, eqv_cons, eqv_cons, eqv_nil, eqv_str, decide_eq_true rfl, Bool.true_and, Bool.and_true, ihx, ihy, eqv_nat]
      by_cases h : x = x'
      · by_cases h' : y = y'
        · by_cases h'' : r = r'
          · rw [decide_eq_true h, decide_eq_true h', decide_eq_true h'', decide_eq_true (by rw [h, h', h''])]; rfl
          · rw [decide_eq_false h'', decide_eq_false (fun z => h'' (Ty.fn.inj z).2.1)]; simp
        · rw [decide_eq_false h', decide_eq_false (fun z => h' (Ty.fn.inj z).2.2)]; simp
      · rw [decide_eq_false h, decide_eq_false (fun z => h (Ty.fn.inj z).1)]; simp
    | _ => rw [decide_eq_false (by intro z; cases z)]; exact head_ne (by simp [Ty.hc])
/-! ### expressions -/
def ExpAt (K : PySem.W.Frag) (H : Hp) : Exp → V → Prop
  | .num n, v => ∃ a, v = .ref a ∧ Tp K H a [.str "num", .int n]
  | .name x, v => ∃ a, v = .ref a ∧ Tp K H a [.str "name", .str (nm x)]
  | .fn x e, v => ∃ a ve, v = .ref a ∧ Tp K H a [.str "fun", .str (nm x), ve] ∧ ExpAt K H e ve
  | .letE x e f, v => ∃ a ve vf, v = .ref a ∧ Tp K H a [.str "let", .str (nm x), ve, vf] ∧ ExpAt K H e ve ∧ ExpAt K H f vf
  | .pair e f, v => ∃ a ve vf, v = .ref a ∧ Tp K H a [.str "pair", ve, vf] ∧ ExpAt K H e ve ∧ ExpAt K H f vf
  | .fst e, v => ∃ a ve, v = .ref a ∧ Tp K H a [.str "fst", ve] ∧ ExpAt K H e ve
  | .not e, v => ∃ a ve, v = .ref a ∧ Tp K H a [.str "not", ve] ∧ ExpAt K H e ve
  | .call e f, v => ∃ a ve vf, v = .ref a ∧ Tp K H a [.str "call", ve, vf] ∧ ExpAt K H e ve ∧ ExpAt K H f vf
theorem ExpAt.ext {K : PySem.W.Frag} {H H' : Hp} (e : Ext H H') : ∀ {t : Exp} {v : V}, ExpAt K H t v → ExpAt K H' t v
  | .num _, _, ⟨a, h1, h2⟩ => ⟨a, h1, h2.ext e⟩
  | .name _, _, ⟨a, h1, h2⟩ => ⟨a, h1, h2.ext e⟩
  | .fn _ _, _, ⟨a, ve, h1, h2, h3⟩ => ⟨a, ve, h1, h2.ext e, ExpAt.ext e h3⟩
  | .letE _ _ _, _, ⟨a, ve, vf, h1, h2, h3, h4⟩ => ⟨a, ve, vf, h1, h2.ext e, ExpAt.ext e h3, ExpAt.ext e h4⟩
  | .pair _ _, _, ⟨a, ve, vf, h1, h2, h3, h4⟩ => ⟨a, ve, vf, h1, h2.ext e, ExpAt.ext e h3, ExpAt.ext e h4⟩
  | .fst _, _, ⟨a, ve, h1, h2, h3⟩ => ⟨a, ve, h1, h2.ext e, ExpAt.ext e h3⟩
  | .not _, _, ⟨a, ve, h1, h2, h3⟩ => ⟨a, ve, h1, h2.ext e, ExpAt.ext e h3⟩
  | .call _ _, _, ⟨a, ve, vf, h1, h2, h3, h4⟩ => ⟨a, ve, vf, h1, h2.ext e, ExpAt.ext e h3, ExpAt.ext e h4⟩
/-! ### bindings -/
def EvAt (K : PySem.W.Frag) (H : Hp) : Ev → V → Prop
  | [], v => v = .non
  | (x, t) :: r, v => ∃ a vt vr, v = .ref a ∧ Tp K H a [.str (nm x), vt, vr] ∧ TyAt K H t vt ∧ EvAt K H r vr
theorem EvAt.ext {K : PySem.W.Frag} {H H' : Hp} (e : Ext H H') : ∀ {t : Ev} {v : V}, EvAt K H t v → EvAt K H' t v
  | [], _, h => h
  | (_, _) :: _, _, ⟨a, vt, vr, h1, h2, h3, h4⟩ => ⟨a, vt, vr, h1, h2.ext e, h3.ext e, EvAt.ext e h4⟩
/-! ### lists of things -/
inductive All2 {α β : Type} (F : α → β → Prop) : List α → List β → Prop
  | nil : All2 F [] []
  | cons {a : α} {b : β} {as : List α} {bs : List β} : F a b → All2 F as bs → All2 F (a :: as) (b :: bs)
section
variable {α β : Type} {F G : α → β → Prop} {as : List α} {bs : List β}
theorem All2.imp (h : ∀ a b, F a b → G a b) : ∀ {as : List α} {bs : List β}, All2 F as bs → All2 G as bs
  | _, _, .nil => .nil
  | _, _, .cons x r => .cons (h _ _ x) (All2.imp h r)
theorem All2.length : ∀ {as : List α} {bs : List β}, All2 F as bs → bs.length = as.length
  | _, _, .nil => rfl
  | _, _, .cons _ r => congrArg (· + 1) (All2.length r)
theorem All2.get : ∀ {as : List α} {bs : List β} {i : Nat} {a : α}, All2 F as bs → as[i]? = some a → ∃ b, bs[i]? = some b ∧ F a b
  | _, _, _, _, .nil, e => by simp at e
  | _, _, 0, _, .cons x _, e => by simp at e; subst e; exact ⟨_, rfl, x⟩
  | _, _, i + 1, a, .cons _ r, e => by
    obtain ⟨b, h1, h2⟩ := All2.get (i := i) r (by simpa using e)
    exact ⟨b, by simpa using h1, h2⟩
theorem All2.get' : ∀ {as : List α} {bs : List β} {i : Nat} {b : β}, All2 F as bs → bs[i]? = some b → ∃ a, as[i]? = some a ∧ F a b
  | _, _, _, _, .nil, e => by simp at e
  | _, _, 0, _, .cons x _, e => by simp at e; subst e; exact ⟨_, rfl, x⟩
  | _, _, i + 1, b, .cons _ r, e => by
    obtain ⟨a, h1, h2⟩ := All2.get' (i := i) r (by simpa using e)
    exact ⟨a, by simpa using h1, h2⟩
theorem All2.snoc {a : α} {b : β} (x : F a b) : ∀ {as : List α} {bs : List β}, All2 F as bs → All2 F (as ++ [a]) (bs ++ [b])
  | _, _, .nil => .cons x .nil
  | _, _, .cons y r => .cons y (All2.snoc x r)
theorem All2.set {a : α} {b : β} (x : F a b) : ∀ {as : List α} {bs : List β} (i : Nat), All2 F as bs → All2 F (as.set i a) (bs.set i b)
  | _, _, _, .nil => .nil
  | _, _, 0, .cons _ r => .cons x r
  | _, _, i + 1, .cons y r => .cons y (All2.set x i r)
end
/-! ### the state -/
/-- addresses of the classes -/
structure Cl where
  cR : Addr
  cK : Addr
  cI : Addr
/-- where the objects of an inference stand -/
structure Lay where
  inf : Addr
  kd : Addr
  rw : Addr
  sg : Addr
  lt : Addr
  lm : Addr
  lo : Addr
  ll : Addr
  ln : Addr
  lf : Addr
  dI : Addr
  dK : Addr
  dR : Addr
abbrev Lay.foot (L : Lay) : List Addr := [L.lt, L.lm, L.lo, L.ll, L.ln, L.lf]
abbrev vN (l : List Nat) : List V := l.map fun n => V.int (n : Nat)
def NamesAt (L : Lay) (H : Hp) (v : V) : Prop := ∃ b, v = .ref b ∧ H b = some (.lst []) ∧ b ∉ L.foot
def FlowAt (K : PySem.W.Frag) (H : Hp) (p : Nat × Nat) (v : V) : Prop := ∃ a w, v = .ref a ∧ Tp K H a [.int (p.1 : Nat), .int (p.2 : Nat), w]
structure At (K : PySem.W.Frag) (C : Cl) (L : Lay) (H : Hp) (s : S) : Prop where
  oI : H L.inf = some (.ins C.cI L.dI [("signatures", .ref L.sg), ("kinds", .ref L.kd), ("rows", .ref L.rw), ("types", .ref L.lt), ("own_rows", .ref L.lo)])
  oK : H L.kd = some (.ins C.cK L.dK [("rows", .ref L.rw), ("meanings", .ref L.lm)])
  oR : H L.rw = some (.ins C.cR L.dR [("links", .ref L.ll), ("names", .ref L.ln), ("flows", .ref L.lf)])
  ts : ∃ vs, H L.lt = some (.lst vs) ∧ All2 (OTyAt K H) s.ts vs
  ms : ∃ vs, H L.lm = some (.lst vs) ∧ All2 (OTyAt K H) s.ms vs
  own : H L.lo = some (.lst (vN s.own))
  links : H L.ll = some (.lst (vN s.links))
  names : ∃ vs, H L.ln = some (.lst vs) ∧ vs.length = s.links.length ∧ ∀ v ∈ vs, NamesAt L H v
  flows : ∃ vs, H L.lf = some (.lst vs) ∧ All2 (FlowAt K H) s.flows vs
  nd : L.foot.Nodup
/-- all but the state's own lists is kept -/
def Kp (L : Lay) (H H' : Hp) : Prop := ∀ b o, H b = some o → b ∉ L.foot → H' b = some o
theorem Kp.refl (L : Lay) (H : Hp) : Kp L H H := fun _ _ h _ => h
theorem Kp.trans {L : Lay} {H H1 H2 : Hp} (a : Kp L H H1) (b : Kp L H1 H2) : Kp L H H2 := fun c o h n => b c o (a c o h n) n
theorem Kp.of {L : Lay} {H H' : Hp} (h : Same H H') : Kp L H H' := fun b o e _ => h b o e
theorem same_new {H : Hp} {p : Addr} (h : H p = none) (o : HO) : Same H (upd H p o) := fun b u q => by rw [upd_ne (ne_of_none q h)]; exact q
theorem sExt {H H' : Hp} (h : Same H H') : Ext H H' := fun b xs e => h b _ e
section
variable {K : PySem.W.Frag} {C : Cl} {L : Lay} {H H' : Hp} {s : S}
/-- what stands at the state's lists are lists -/
theorem At.foot_lst (A : At K C L H s) {b : Addr} (h : b ∈ L.foot) : ∃ xs, H b = some (.lst xs) := by
  obtain ⟨v1, h1, _⟩ := A.ts
  obtain ⟨v2, h2, _⟩ := A.ms
  obtain ⟨v3, h3, _⟩ := A.names
  obtain ⟨v4, h4, _⟩ := A.flows
  simp only [Lay.foot, List.mem_cons, List.not_mem_nil, or_false] at h
  rcases h with rfl | rfl | rfl | rfl | rfl | rfl
  · exact ⟨_, h1⟩
  · exact ⟨_, h2⟩
  · exact ⟨_, A.own⟩
  · exact ⟨_, A.links⟩
  · exact ⟨_, h3⟩
  · exact ⟨_, h4⟩
theorem At.not_foot (A : At K C L H s) {b : Addr} {o : HO} (h : H b = some o) (d : ∀ xs, o ≠ .lst xs) : b ∉ L.foot := fun hm => by
  obtain ⟨xs, e⟩ := A.foot_lst hm
  rw [h] at e
  exact d xs (Option.some.inj e)
theorem At.none_foot (A : At K C L H s) {b : Addr} (h : H b = none) : b ∉ L.foot := fun hm => by
  obtain ⟨xs, e⟩ := A.foot_lst hm
  rw [h] at e
  cases e
theorem At.ext (A : At K C L H s) (k : Kp L H H') : Ext H H' := fun b xs e => k b _ e (A.not_foot e (fun _ z => by cases z))
/-- new objects alone -/
theorem At.same (A : At K C L H s) (k : Same H H') : At K C L H' s where
  oI := k _ _ A.oI
  oK := k _ _ A.oK
  oR := k _ _ A.oR
  ts := by obtain ⟨vs, h1, h2⟩ := A.ts; exact ⟨vs, k _ _ h1, h2.imp fun _ _ z => z.ext (sExt k)⟩
  ms := by obtain ⟨vs, h1, h2⟩ := A.ms; exact ⟨vs, k _ _ h1, h2.imp fun _ _ z => z.ext (sExt k)⟩
  own := k _ _ A.own
  links := k _ _ A.links
  names := by obtain ⟨vs, h1, h2, h3⟩ := A.names; exact ⟨vs, k _ _ h1, h2, fun v hv => by obtain ⟨b, e1, e2, e3⟩ := h3 v hv; exact ⟨b, e1, k _ _ e2, e3⟩⟩
  flows := by obtain ⟨vs, h1, h2⟩ := A.flows; exact ⟨vs, k _ _ h1, h2.imp fun _ _ ⟨a, w, e1, e2⟩ => ⟨a, w, e1, e2.ext (sExt k)⟩⟩
  nd := A.nd
end
end K9
/-! The state's lists, changed one at a time. -/
namespace K9
open PySem L2
section
variable {K : PySem.W.Frag} {C : Cl} {L : Lay} {H H' : Hp} {s : S}
theorem nin {b l : Addr} {F : List Addr} (n : b ∉ F) (h : l ∈ F) : b ≠ l := fun z => n (by rw [z]; exact h)
theorem At.kp (A : At K C L H s) {l : Addr} (hl : l ∈ L.foot) (o : HO) : Kp L H (upd H l o) := fun b u e n => by
  rw [upd_ne (nin n hl)]
  exact e
theorem At.put (A : At K C L H s) {l : Addr} (hl : l ∈ L.foot) {xs : List V} (s' : S)
    (ts : ∃ vs, upd H l (.lst xs) L.lt = some (.lst vs) ∧ All2 (OTyAt K H) s'.ts vs) (ms : ∃ vs, upd H l (.lst xs) L.lm = some (.lst vs) ∧ All2 (OTyAt K H) s'.ms vs)
    (own : upd H l (.lst xs) L.lo = some (.lst (vN s'.own))) (links : upd H l (.lst xs) L.ll = some (.lst (vN s'.links)))
    (names : ∃ vs, upd H l (.lst xs) L.ln = some (.lst vs) ∧ vs.length = s'.links.length ∧ ∀ v ∈ vs, NamesAt L H v)
    (flows : ∃ vs, upd H l (.lst xs) L.lf = some (.lst vs) ∧ All2 (FlowAt K H) s'.flows vs) : At K C L (upd H l (.lst xs)) s' := by
  have kp := A.kp hl (.lst xs)
  have e := A.ext kp
  refine ⟨kp _ _ A.oI (A.not_foot A.oI (fun _ z => by cases z)), kp _ _ A.oK (A.not_foot A.oK (fun _ z => by cases z)), kp _ _ A.oR (A.not_foot A.oR (fun _ z => by cases z)), ?_, ?_, own, links, ?_, ?_, A.nd⟩
  · obtain ⟨vs, h1, h2⟩ := ts
    exact ⟨vs, h1, h2.imp fun _ _ z => z.ext e⟩
  · obtain ⟨vs, h1, h2⟩ := ms
    exact ⟨vs, h1, h2.imp fun _ _ z => z.ext e⟩
  · obtain ⟨vs, h1, h2, h3⟩ := names
    exact ⟨vs, h1, h2, fun v hv => by obtain ⟨b, e1, e2, e3⟩ := h3 v hv; exact ⟨b, e1, kp _ _ e2 e3, e3⟩⟩
  · obtain ⟨vs, h1, h2⟩ := flows
    exact ⟨vs, h1, h2.imp fun _ _ ⟨a, w, e1, e2⟩ => ⟨a, w, e1, e2.ext e⟩⟩
structure Lay.Nd (L : Lay) : Prop where
  tm : L.lt ≠ L.lm
  to : L.lt ≠ L.lo
  tl : L.lt ≠ L.ll
  tn : L.lt ≠ L.ln
  tf : L.lt ≠ L.lf
  mo : L.lm ≠ L.lo
  ml : L.lm ≠ L.ll
  mn : L.lm ≠ L.ln
  mf : L.lm ≠ L.lf
  ol : L.lo ≠ L.ll
  on : L.lo ≠ L.ln
  of : L.lo ≠ L.lf
  ln : L.ll ≠ L.ln
  lf : L.ll ≠ L.lf
  nf : L.ln ≠ L.lf
theorem At.ne (A : At K C L H s) : L.Nd := by
  have h := A.nd
  simp only [Lay.foot, List.nodup_cons, List.mem_cons, List.not_mem_nil, or_false, not_or, List.nodup_nil, and_true, not_false_eq_true] at h
  obtain ⟨⟨h1, h2, h3, h4, h5⟩, ⟨h6, h7, h8, h9⟩, ⟨h10, h11, h12⟩, ⟨h13, h14⟩, h15⟩ := h
  exact ⟨h1, h2, h3, h4, h5, h6, h7, h8, h9, h10, h11, h12, h13, h14, h15⟩
theorem Lay.inT (L : Lay) : L.lt ∈ L.foot := by simp [Lay.foot]
theorem Lay.inM (L : Lay) : L.lm ∈ L.foot := by simp [Lay.foot]
theorem Lay.inO (L : Lay) : L.lo ∈ L.foot := by simp [Lay.foot]
theorem Lay.inL (L : Lay) : L.ll ∈ L.foot := by simp [Lay.foot]
theorem Lay.inN (L : Lay) : L.ln ∈ L.foot := by simp [Lay.foot]
theorem Lay.inF (L : Lay) : L.lf ∈ L.foot := by simp [Lay.foot]
theorem At.setTs (A : At K C L H s) {vs : List V} {ts : List (Option Ty)} (h : All2 (OTyAt K H) ts vs) : At K C L (upd H L.lt (.lst vs)) { s with ts := ts } := by
  have n := A.ne
  refine A.put L.inT _ ⟨vs, upd_same, h⟩ ?_ ?_ ?_ ?_ ?_
  · rw [upd_ne n.tm.symm]; exact A.ms
  · rw [upd_ne n.to.symm]; exact A.own
  · rw [upd_ne n.tl.symm]; exact A.links
  · rw [upd_ne n.tn.symm]; exact A.names
  · rw [upd_ne n.tf.symm]; exact A.flows
theorem At.setMs (A : At K C L H s) {vs : List V} {ms : Ms} (h : All2 (OTyAt K H) ms vs) : At K C L (upd H L.lm (.lst vs)) { s with ms := ms } := by
  have n := A.ne
  refine A.put L.inM _ ?_ ⟨vs, upd_same, h⟩ ?_ ?_ ?_ ?_
  · rw [upd_ne n.tm]; exact A.ts
  · rw [upd_ne n.mo.symm]; exact A.own
  · rw [upd_ne n.ml.symm]; exact A.links
  · rw [upd_ne n.mn.symm]; exact A.names
  · rw [upd_ne n.mf.symm]; exact A.flows
theorem At.setOwn (A : At K C L H s) (own : List Nat) : At K C L (upd H L.lo (.lst (vN own))) { s with own := own } := by
  have n := A.ne
  refine A.put L.inO _ ?_ ?_ upd_same ?_ ?_ ?_
  · rw [upd_ne n.to]; exact A.ts
  · rw [upd_ne n.mo]; exact A.ms
  · rw [upd_ne n.ol.symm]; exact A.links
  · rw [upd_ne n.on.symm]; exact A.names
  · rw [upd_ne n.of.symm]; exact A.flows
theorem At.setLinks (A : At K C L H s) (links : List Nat) (hl : links.length = s.links.length) : At K C L (upd H L.ll (.lst (vN links))) { s with links := links } := by
  have n := A.ne
  refine A.put L.inL _ ?_ ?_ ?_ upd_same ?_ ?_
  · rw [upd_ne n.tl]; exact A.ts
  · rw [upd_ne n.ml]; exact A.ms
  · rw [upd_ne n.ol]; exact A.own
  · rw [upd_ne n.ln.symm]
    obtain ⟨vs, h1, h2, h3⟩ := A.names
    exact ⟨vs, h1, h2.trans hl.symm, h3⟩
  · rw [upd_ne n.lf.symm]; exact A.flows
theorem At.setFlows (A : At K C L H s) {vs : List V} {fl : List (Nat × Nat)} (h : All2 (FlowAt K H) fl vs) : At K C L (upd H L.lf (.lst vs)) { s with flows := fl } := by
  have n := A.ne
  refine A.put L.inF _ ?_ ?_ ?_ ?_ ?_ ⟨vs, upd_same, h⟩
  · rw [upd_ne n.tf]; exact A.ts
  · rw [upd_ne n.mf]; exact A.ms
  · rw [upd_ne n.of]; exact A.own
  · rw [upd_ne n.lf]; exact A.links
  · rw [upd_ne n.nf]; exact A.names
theorem vN_snoc (l : List Nat) (n : Nat) : vN l ++ [V.int (n : Nat)] = vN (l ++ [n]) := by simp [vN]
theorem vN_set (l : List Nat) (i n : Nat) : (vN l).set i (V.int (n : Nat)) = vN (l.set i n) := by simp [vN, List.map_set]
theorem vN_length (l : List Nat) : (vN l).length = l.length := by simp [vN]
theorem vN_get {l : List Nat} {i n : Nat} (h : l[i]? = some n) : (vN l)[i]? = some (V.int (n : Nat)) := by simp [vN, h]
/-- a new row: links and names get one more each -/
theorem At.pushR (A : At K C L H s) {p : Addr} {vs : List V} (hn : H L.ln = some (.lst vs)) (hp : H p = none) :
    At K C L (upd (upd (upd H L.ll (.lst (vN (s.links ++ [s.links.length])))) p (.lst [])) L.ln (.lst (vs ++ [.ref p]))) { s with links := s.links ++ [s.links.length] } ∧
    Kp L H (upd (upd (upd H L.ll (.lst (vN (s.links ++ [s.links.length])))) p (.lst [])) L.ln (.lst (vs ++ [.ref p]))) := by
  have n := A.ne
  have pf : p ∉ L.foot := A.none_foot hp
  have kp : Kp L H (upd (upd (upd H L.ll (.lst (vN (s.links ++ [s.links.length])))) p (.lst [])) L.ln (.lst (vs ++ [.ref p]))) := fun b o e nb => by
    rw [upd_ne (nin nb L.inN), upd_ne (ne_of_none e hp), upd_ne (nin nb L.inL)]
    exact e
  have e := A.ext kp
  have fp : ∀ {b : Addr}, b ∈ L.foot → b ≠ p := fun hb => (nin pf hb).symm
  have keep : ∀ {b : Addr}, b ∈ L.foot → b ≠ L.ll → b ≠ L.ln → (upd (upd (upd H L.ll (.lst (vN (s.links ++ [s.links.length])))) p (.lst [])) L.ln (.lst (vs ++ [.ref p]))) b = H b := fun hb h1 h2 => by
    rw [upd_ne h2, upd_ne (fp hb), upd_ne h1]
  refine ⟨⟨kp _ _ A.oI (A.not_foot A.oI (fun _ z => by cases z)), kp _ _ A.oK (A.not_foot A.oK (fun _ z => by cases z)), kp _ _ A.oR (A.not_foot A.oR (fun _ z => by cases z)), ?_, ?_, ?_, ?_, ?_, ?_, A.nd⟩, kp⟩
  · obtain ⟨v, h1, h2⟩ := A.ts
    exact ⟨v, (keep L.inT n.tl n.tn).trans h1, h2.imp fun _ _ z => z.ext e⟩
  · obtain ⟨v, h1, h2⟩ := A.ms
    exact ⟨v, (keep L.inM n.ml n.mn).trans h1, h2.imp fun _ _ z => z.ext e⟩
  · exact (keep L.inO n.ol n.on).trans A.own
  · rw [upd_ne n.ln, upd_ne (fp L.inL), upd_same]
  · obtain ⟨v, h1, h2, h3⟩ := A.names
    rw [hn] at h1
    cases h1
    refine ⟨_, upd_same, by simp [h2], fun v hv => ?_⟩
    rcases List.mem_append.mp hv with hv | hv
    · obtain ⟨b, e1, e2, e3⟩ := h3 v hv
      exact ⟨b, e1, kp _ _ e2 e3, e3⟩
    · have e1 := List.mem_singleton.mp hv
      exact ⟨p, e1, by rw [upd_ne (nin pf L.inN), upd_same], pf⟩
  · obtain ⟨v, h1, h2⟩ := A.flows
    exact ⟨v, (keep L.inF n.lf.symm n.nf.symm).trans h1, h2.imp fun _ _ ⟨a, w, e1, e2⟩ => ⟨a, w, e1, e2.ext e⟩⟩
end
end K9
/-! A list comprehension whose element may raise out of a call. -/
namespace L2
open PySem PySem.Spec PyProof.Rows
section
variable {X : Cx} {pins : List (Addr × Obj)} {σ : St} {H : Hp} {s : Shared} {W : WX} {E' : XK}
/-- the block's state without the block's own dict -/
theorem blk_out {scope : Scope} {ce : Env} {fp : List Addr} {H3 H9 : Hp} {s3 s9 : Shared} {σ9 : St} {pins9 : List (Addr × Obj)} (I3 : Inv X pins σ H3 s3) (I9 : Inv (X.blk s3 H3 scope ce fp) pins9 σ9 H9 s9)
    (hL : ce.locals = s3.heap.objs.size) (f3 : ∀ b ∈ fp, FpOk X pins H3 b) :
    ∃ G : Heap, (∀ b, b ≠ ce.locals → G.get? b = s9.heap.get? b) ∧ G.get? ce.locals = none ∧ Inv X pins σ H9 { s9 with heap := G } := by
  obtain ⟨G, g1, g2⟩ := restrict s9.heap fun b => decide (b ≠ ce.locals)
  have gk : ∀ b, b ≠ ce.locals → G.get? b = s9.heap.get? b := fun b hb => g1 b (decide_eq_true hb)
  have gn : G.get? ce.locals = none := g2 _ (by simp)
  have hfree : H9 ce.locals = none := I9.free
  have nL : ∀ {b : Addr} {o : Obj}, s3.heap.get? b = some o → b ≠ ce.locals := fun {b o} e => by
    rw [hL]
    exact Nat.ne_of_lt (Heap.lt_size e)
  have ub : Un (frs X.stack) fp H3 H9 s3.heap s9.heap := I9.base
  have U : Un (frs X.stack) fp H3 H9 s3.heap G := {
    keep := fun b o e n hf hx => by rw [gk b (nL e)]; exact ub.keep b o e n hf hx
    slot := fun b o e n hf hx => by rw [gk b (nL e)]; exact ub.slot b o e n hf hx
    free := fun b o e n hx => ub.free b o e n hx
    there := fun b o e hx => by rw [gk b (nL e)]; exact ub.there b o e hx
    tups := ub.tups
    frzs := ub.frzs
    tbls := ub.tbls }
  have tne : ∀ {b : Addr} {o : HO}, H9 b = some o → b ≠ ce.locals := fun {b o} e z => by rw [z, hfree] at e; cases e
  have hok : HOk X.prog X.w H9 G := fun b o e => (I9.hok b o e).stay (fun c u hc z => by
      have hcL : c ≠ ce.locals := by
        rcases hc with hc | hc
        · rw [hc]; exact tne e
        · exact tne hc
      rw [gk c hcL]; exact z) (fun c hc => hc) (fun c xs hc => hc)
  refine ⟨G, gk, gn, ?_⟩
  exact I3.call' (ch := fp) I9.os U hok I9.bare fun b hb => ⟨(f3 b hb).2.2.2.1, (f3 b hb).2.1, (f3 b hb).2.2.2.2.1, (f3 b hb).2.2.2.2.2⟩
/-- an exception of a call in the block's element: it goes out of the comprehension into the def's air -/
theorem blk_raise {scope : Scope} {ce : Env} {fp : List Addr} {H3 H9 : Hp} {s3 s9 s' : Shared} {σ9 : St} {pins9 : List (Addr × Obj)} {e : Value} (hs : X.stack = X.env :: X.outer) (hf : X.env.frame = some X.env.locals) (tk : Takes X W) (hW : ∀ cls d σ H, E' cls d H → W cls d σ H)
    (I3 : Inv X pins σ H3 s3) (I9 : Inv (X.blk s3 H3 scope ce fp) pins9 σ9 H9 s9) (hL : ce.locals = s3.heap.objs.size) (hcf : ce.frame = X.env.frame) (f3 : ∀ b ∈ fp, FpOk X pins H3 b)
    (c : CX X.prog X.w X.stack H9 s9 E' e s') {use : Option (Value → Sem Unit)} {Qf : Value → Shared → Prop} {acc : Value} :
    notedBy (model X.prog X.w) X.A ce (fun e s' => compEnds (model X.prog X.w) X.A X.xe use Qf acc ce (.error e) s') e s' := by
  have ok := I3.ok
  have hfr : X.A.frames = some (X.env :: X.outer) := by rw [ok.frames, hs]
  obtain ⟨G, gk, gn, IG⟩ := blk_out I3 I9 hL f3
  obtain ⟨a, B, H', cls, d, rfl, fl, hok, ub, na, os, ag, hE⟩ := c
  obtain ⟨B', b1, b2⟩ := restrict B fun b => decide (b ≠ ce.locals)
  have bk : ∀ b, b ≠ ce.locals → B'.get? b = B.get? b := fun b hb => b1 b (decide_eq_true hb)
  have bn : B'.get? ce.locals = none := b2 _ (by simp)
  have bsub : ∀ b o, B'.get? b = some o → B.get? b = some o := fun b o z => by
    by_cases hb : b = ce.locals
    · rw [hb, bn] at z; cases z
    · rw [← bk b hb]; exact z
  have gsub : ∀ b o, G.get? b = some o → s9.heap.get? b = some o ∧ b ≠ ce.locals := fun b o z => by
    by_cases hb : b = ce.locals
    · rw [hb, gn] at z; cases z
    · exact ⟨by rw [← gk b hb]; exact z, hb⟩
  have bnone : ∀ {b : Addr}, B.get? b = none → B'.get? b = none := fun {b} z => by
    cases q : B'.get? b with
    | none => rfl
    | some o => rw [bsub b o q] at z; cases z
  obtain ⟨m9, hn9, _⟩ := I9.loc
  have hC9 : ∃ o, s9.heap.get? ce.locals = some o := by
    obtain ⟨o, _, _, e1, _⟩ := hn9
    exact ⟨o, e1⟩
  obtain ⟨oC, hoC⟩ := hC9
  have h9n : H9 ce.locals = none := I9.free
  have h'n : H' ce.locals = none := ub.free _ _ hoC h9n
  have cf : ce.locals ∉ frs X.stack := by
    have z : ce.locals ∉ (X.blk s3 H3 scope ce fp).fs := fun hm => by
      have zz := I3.stkSub ce.locals hm
      rcases List.mem_cons.mp zz with q | q
      · have y := I3.lt
        rw [← q, hL] at y
        exact absurd y (Nat.lt_irrefl _)
      · obtain ⟨env, he, hq⟩ := List.mem_filterMap.mp hm
        have F3 := I3.stack
        obtain ⟨_, o, eo, _⟩ := F3.mem hm
        have y := Heap.lt_size eo
        rw [hL] at y
        exact absurd y (Nat.lt_irrefl _)
    exact z
  have fl' : HandSPX.FlyingZ B' X.stack a (Zc cls d) s'.heap := by
    obtain ⟨k1, k2, k3, oe, vs, T, oT, ts, he, hz, hd, h1, hnT, hTe, hT, hdT, h3⟩ := fl
    exact ⟨fun b o z => k1 b o (bsub b o z), bnone k2, funFrames_none k3 (fun L hm => bnone (by
      obtain ⟨q, _⟩ := k3.mem hm
      exact q)), oe, vs, T, oT, ts, he, hz, hd, h1, bnone hnT, hTe, hT, hdT, h3⟩
  have tne : ∀ {b : Addr} {o : HO}, H' b = some o → b ≠ ce.locals := fun {b o} e z => by rw [z, h'n] at e; cases e
  have hok' : HOk X.prog X.w H' B' := fun b o z => (hok b o z).stay (fun c u hc y => by
      have hcL : c ≠ ce.locals := by
        rcases hc with hc | hc
        · rw [hc]; exact tne z
        · exact tne hc
      rw [bk c hcL]; exact y) (fun c hc => hc) (fun c xs hc => hc)
  have ub' : UB (frs X.stack) H9 H' G B' s'.heap := {
    keep := fun b o z n hb => by
      obtain ⟨z1, z2⟩ := gsub b o z
      rw [bk b z2]; exact ub.keep b o z1 n hb
    slot := fun b o z hb => ub.slot b o (gsub b o z).1 hb
    free := fun b o z n => ub.free b o (gsub b o z).1 n
    there := fun b o z hb => by
      obtain ⟨z1, z2⟩ := gsub b o z
      rw [bk b z2]; exact ub.there b o z1 hb
    tups := ub.tups
    frzs := ub.frzs
    tbls := ub.tbls }
  have c' : CX X.prog X.w X.stack H9 { s9 with heap := G } E' (.ref a) s' := ⟨a, B', H', cls, d, rfl, fl', hok', ub', na, os, ag, hE⟩
  -- the state without the exception, without the block's dict
  obtain ⟨G2, q1, q2⟩ := restrict s'.heap fun b => (B'.get? b).isSome || decide (b ∈ frs X.stack)
  have st : B'.StaysIn s'.heap := fl'.1
  have gB : ∀ b o, B'.get? b = some o → G2.get? b = some o := fun b o e => by
    rw [q1 b (by simp [e])]
    exact st b o e
  have gF : ∀ b, b ∈ frs X.stack → G2.get? b = s'.heap.get? b := fun b hb => q1 b (by simp [hb])
  have og : ∀ b o, G2.get? b = some o → s'.heap.get? b = some o ∧ ((B'.get? b).isSome = true ∨ b ∈ frs X.stack) := fun b o e => by
    cases q : ((B'.get? b).isSome || decide (b ∈ frs X.stack)) with
    | false => rw [q2 b q] at e; cases e
    | true =>
      rw [q1 b q] at e
      exact ⟨e, by simpa [Bool.or_eq_true] using q⟩
  have IL : Inv X pins σ H' { ({ s9 with heap := G } : Shared) with heap := G2, gens := s'.gens, drawn := s'.drawn, toks := s'.toks } := by
    refine Inv.call (s := { s9 with heap := G }) (ch := []) IG ⟨fun b o e n hb _ => gB b o (ub'.keep b o e n hb), fun b o e n hb _ => ?_, fun b o e n _ => ub'.free b o e n, fun b o e _ => ?_, ub'.tups, ub'.frzs, ub'.tbls⟩ (hok'.kept gB) ag (fun _ z => nomatch z)
    · obtain ⟨sl, q⟩ := ub'.slot b o e hb
      exact ⟨sl, by rw [gF b hb]; exact q⟩
    · by_cases hb : b ∈ frs X.stack
      · obtain ⟨sl, q⟩ := ub'.slot b o e hb
        exact ⟨_, by rw [gF b hb]; exact q⟩
      · obtain ⟨o', q⟩ := ub'.there b o e hb
        exact ⟨o', gB b o' q⟩
  have nb : ∀ b o, G2.get? b = some o → b ∉ frs X.stack → B'.get? b = some o := fun b o e hb => by
    obtain ⟨e', h⟩ := og b o e
    rcases h with h | h
    · obtain ⟨o', q⟩ := Option.isSome_iff_exists.mp h
      have z := st b o' q
      rw [e'] at z; cases z
      exact q
    · exact absurd h hb
  have gC : G2.get? ce.locals = none := q2 _ (by simp [bn, cf])
  -- the note
  have up0 : G2.UpToSlots s'.heap := Heap.UpToSlots.of_keeps fun b o e => (og b o e).1
  have flS : HandSPX.FlyingZ B' (X.env :: X.outer) a (Zc cls d) s'.heap := by rw [← hs]; exact fl'
  show wpAny (model X.prog X.w) X.A (noteFrame (.ref a) ce) _ _ _
  rw [noteFrame_env _ hcf]
  refine HandSPX.looks_onZ Zc.steady hfr hf flS fun h2 hh2 up2 => ?_
  -- the block's dict stands
  have hC2 : ∃ m, h2.Ns ce.locals m := by
    -- it stood when the exception was made
    obtain ⟨oL, es, ep, e1, e2, e3⟩ := hn9
    have z1 : B.get? ce.locals = some oL := ub.keep _ _ e1 h9n cf
    have z2 := fl.1 _ _ z1
    obtain ⟨sl, z3⟩ := up2 _ _ z2 (fun vs q => by rw [e2] at q; cases q)
    exact ⟨m9, _, es, ep, z3, e2, e3⟩
  obtain ⟨m2, hn2⟩ := hC2
  refine ⟨m2, hn2, fun h3 m3 hn3 hsb => ?_⟩
  obtain ⟨f1, f2, f3', f4⟩ := hh2
  have st3 : B'.StaysIn h3 := fun b o z => by
    have hb : b ≠ ce.locals := fun q => by rw [q, bn] at z; cases z
    exact (hsb.2 b hb).trans (f1 b o z)
  have ff3 : h3.FunFrames B' (X.env :: X.outer) := Heap.FunFrames.sameBut hsb hn3 f3'
  have tz3 : HandSPX.TracedZ h3 B' a (Zc cls d) (rawInt X.env.locals) := by
    obtain ⟨oe, vs, T, oT, ts, he, hz, hd, h1, hnT, hTe, hT, hdT, h3v⟩ := f4
    have nC : ∀ {b : Addr} {o : Obj} {vs : Array Value}, h2.get? b = some o → o.data = .fields vs → b ≠ ce.locals := fun {b o vs} e1 e2 q => by
      obtain ⟨oL, es, ep, l1, l2, _⟩ := hn2
      rw [q] at e1
      rw [e1] at l1
      cases l1
      rw [e2] at l2
      cases l2
    exact ⟨oe, vs, T, oT, ts, (hsb.2 a (nC he hd)).trans he, hz, hd, h1, hnT, hTe, (hsb.2 T (nC hT hdT)).trans hT, hdT, h3v⟩
  have hh3 : HandSPX.HeldZ B' (X.env :: X.outer) a (Zc cls d) X.env.locals h3 := ⟨st3, f2, ff3, tz3⟩
  have up3 : G2.UpToSlots h3 := fun b o z hnf => by
    obtain ⟨sl, y⟩ := (up0.trans up2) b o z hnf
    have hb : b ≠ ce.locals := fun q => by rw [q, gC] at z; cases z
    exact ⟨sl, (hsb.2 b hb).trans y⟩
  obtain ⟨oe, vs, T, oT, ts, he, hz, hd, h1, _⟩ := id tz3
  unfold PySem.passOn
  refine wpAny_bind (wpAny_field he hd h1 ?_)
  rw [if_neg (show ¬ ((Value.ref T == Value.none) = true) from by simp)]
  have fin : wpAny (model X.prog X.w) X.A (setFlight (.ref a) ce.frame) (fun _ s4 => wpAny (model X.prog X.w) X.A (throw (.ref a) : Sem Value) (fun _ _ => False) X.xe s4) X.xe { s' with heap := h3 } := by
    rw [hcf, hf]
    refine HandSPX.setFlight_onZ hh3 fun h4 hh4 up4 => wpAny_throw (tk _ _ ?_)
    exact ⟨a, B', _, pins, σ, H', cls, d, rfl, IL, nb, up3.trans up4, .inr (.inr (by rw [hs]; exact hh4)), na, os, ag, hW _ _ _ _ hE⟩
  first
    | exact wpAny_bind (wpAny_pure (wpAny_bind fin))
    | exact wpAny_bind fin
/-- the reading of [elt for tg in iter], the element may raise: as tLc, without tests -/
def tLcX (wi : TI) (g : TG) (te : TE) (vs : List Nat) : TE := fun σ H Q => wi σ H fun J H1 => ∀ D, H1 D = none → ∃ W : Nat → Nat → Hp → Prop, (∃ m, W 0 m (upd H1 D (.lst []))) ∧ ∀ i m H, W i m H →
  (J.stop i H ∧ Q (.ref D) H) ∨ (J.go i H ∧ ∃ Nx : Hp → Prop, (∀ H', Nx H' → ∃ m', m' < m ∧ W (i + 1) m' H') ∧ ∀ x H', J.yld i H x H' → g x (wipe σ vs) H' fun σ2 H2 => wipe σ2 vs = wipe σ vs ∧
    te σ2 H2 fun y H4 => ∃ acc, H4 D = some (.lst acc) ∧ acc.length < sizeLine ∧ Nx (upd H4 D (.lst (acc ++ [y]))))
/-- the block whose element may raise -/
theorem lcx_core {pins : List (Addr × Obj)} {s : Shared} {σ : St} {H : Hp} {Q : VK} {elt tg iter : Expr} {scope : Scope} {own : List (Str × Nat)} {pos pos' : Pos} {wi : TI} {g : TG} {te : TE} {use : Option (Value → Sem Unit)} {Qf : Value → Shared → Prop}
    (hst : X.stack = X.env :: X.outer) (hfr : X.env.frame = some X.env.locals) (tk : Takes X W) (hW : ∀ cls d σ H, E' cls d H → W cls d σ H)
    (hc : X.calm = true) (hN : X.N.Nodup) (I : Inv X pins σ H s) (hi : PI X tg iter wi) (ok : BlkOk X.N X.env.scope scope own)
    (hg : ∀ (s : Shared) (H : Hp) (C : Addr) (cl : List (Str × Addr)) (fp : List Addr), PG (X.blk s H scope (compEnvC scope cl C X.env) fp) tg g)
    (he : ∀ (s : Shared) (H : Hp) (C : Addr) (cl : List (Str × Addr)) (fp : List Addr) (xe : Value → Shared → Prop), Passes (CX X.prog X.w) ((X.blk s H scope (compEnvC scope cl C X.env) fp).wish xe) E' → PE ((X.blk s H scope (compEnvC scope cl C X.env) fp).wish xe) elt te)
    (hs : ∀ x, foldedSetIterable iter X.env x = pure x) (h : tLcX wi g te (own.map (·.2)) σ H Q)
    (fin : ∀ D ce s' m H', Inv X pins σ H' s' → Q (.ref D) H' → s'.heap.Ns ce.locals m → FpOk X pins H' ce.locals → compEnds (model X.prog X.w) X.A X.xe use Qf (.ref D) ce (.ok .next) s') :
    wpAny (model X.prog X.w) X.A (comprehension (.ListComp elt [⟨tg, iter, [], 0⟩] scope pos) scope X.env pos' (newList []) false (eval iter X.env) use) Qf X.xe s := by
  have cellOf : ∀ y ∈ scope.names, y.2 = .free → ∃ c, X.env.cells.lookup y.1 = some c := fun y hy e => (ok.free y hy e).elim (fun k => I.ok.has _ (.inl k)) fun k => I.ok.has _ (.inr k)
  refine comprehension_at (use := use) rfl hs (closure_ok cellOf) ok.kind (fun y hy e => by rw [ok.uniq y hy, e]) (thn (hi.run pins s σ H _ I h) fun _ _ hx => thn hx fun _ s2 ⟨it, fp, tn, J, H2, e, I2, T, st2, f2, q⟩ => ?_)
  subst e
  refine wpAny_newObj_type (newEnv_comp ?_) (by show 0 ≤ sizeLine; decide)
  -- D: the new list; sB: the state with it
  obtain ⟨D, hD⟩ : ∃ D, D = s2.heap.objs.size := ⟨_, rfl⟩
  obtain ⟨sB, hsB⟩ : ∃ sB : Shared, sB = { s2 with heap := s2.heap.push { cls := .type "list", data := .seq ([] : List Value).toArray } } := ⟨_, rfl⟩
  rw [← hD, ← hsB]
  have hDn : H2 D = none := I2.hok.fresh (Nat.le_of_eq hD.symm)
  obtain ⟨W', ⟨m0, w0⟩, turn⟩ := q D hDn
  obtain ⟨HB, hHB⟩ : ∃ HB, HB = upd H2 D (.lst []) := ⟨_, rfl⟩
  rw [← hHB] at w0
  have kB : ∀ b o, s2.heap.get? b = some o → sB.heap.get? b = some o := fun b o z => by rw [hsB]; exact Heap.get?_push_of_some _ z
  have IB : Inv X pins σ HB sB := by
    rw [hHB, hsB]
    refine I2.laid (t' := s2.toks) (fun b o e => Heap.get?_push_of_some _ e) (Nat.le_of_eq hD.symm) ⟨Nat.zero_le _, [], 0, .nil, ?_⟩
    rw [hD]
    exact Heap.get?_push_size _ rfl
  have fB : ∀ b ∈ fp, FpOk X pins HB b ∧ b < sB.heap.objs.size := fun b hb => by
    obtain ⟨o, e, _⟩ := T.obj _ _ st2 b hb
    have hlt := Heap.lt_size e
    refine ⟨⟨?_, (f2 b hb).2⟩, Heap.lt_size (kB b o e)⟩
    rw [hHB, upd_ne (by rw [hD]; exact Nat.ne_of_lt hlt)]
    exact (f2 b hb).1
  have tB : tn 0 sB.heap := T.keep _ _ _ st2 fun b _ o e => kB b o e
  have IC := block_start IB ok hN fB
  obtain ⟨cl, hcl⟩ : ∃ cl, cl = cellsFrom (sB.heap.objs.size + 1) scope.names (cloFrom X.env.cells scope.names []) := ⟨_, rfl⟩
  rw [← hcl] at IC
  obtain ⟨sC, hsC⟩ : ∃ sC : Shared, sC = { sB with heap := pushCells (sB.heap.push { cls := .type "dict", data := .dict #[] }) scope.names } := ⟨_, rfl⟩
  rw [← hsC] at IC
  have goal : codeAny (model X.prog X.w) X.A (.compStart (.ListComp elt [⟨tg, iter, [], 0⟩] scope pos) 0 (.ref it) (.ref D) (compEnvC scope cl sB.heap.objs.size X.env)) (compEnds (model X.prog X.w) X.A X.xe use Qf (.ref D) (compEnvC scope cl sB.heap.objs.size X.env)) sC := by
    have pg := hg sB HB sB.heap.objs.size cl fp
    have pe := he sB HB sB.heap.objs.size cl fp
    have ceL : (compEnvC scope cl sB.heap.objs.size X.env).locals = sB.heap.objs.size := rfl
    have ceF : (compEnvC scope cl sB.heap.objs.size X.env).frame = X.env.frame := rfl
    generalize compEnvC scope cl sB.heap.objs.size X.env = ce at IC pg pe ceL ceF ⊢
    have nfp : ∀ b ∈ fp, HB b = none := fun b hb => (fB b hb).1.1
    have tC : tn 0 sC.heap := T.keep _ _ _ tB fun b _ o e => by rw [hsC]; exact pushCells_keeps _ _ _ _ (Heap.get?_push_of_some _ e)
    have fpk : ∀ {σ' : St} {H' : Hp} {s' : Shared}, Inv (X.blk sB HB scope ce fp) [] σ' H' s' → (∀ b ∈ fp, H' b = none) → ∀ b ∈ fp, FpOk (X.blk sB HB scope ce fp) [] H' b := fun {σ' H' s'} I' hn b hb =>
      ⟨hn b hb, (I'.ok.exf b hb).1, I'.ok.exfs b hb, .inl hb, fun x c e => (I'.ok.exf b hb).2 x c e, fun p hp => absurd (show p ∈ ([] : List (Addr × Obj)) ++ [] from hp) (by simp)⟩
    have loop : codeAny (model X.prog X.w) X.A (.compLoop (.ListComp elt [⟨tg, iter, [], 0⟩] scope pos) 0 (.ref it) (.ref D) ce) (compEnds (model X.prog X.w) X.A X.xe use Qf (.ref D) ce) sC := by
      refine compLoop_any (fun n s' => ∃ i H', Inv (X.blk sB HB scope ce fp) [] (wipe σ (own.map (·.2))) H' s' ∧ tn i s'.heap ∧ (∀ b ∈ fp, H' b = none) ∧ W' i n H') ?_ m0 ⟨0, HB, IC, tC, nfp, w0⟩
      rintro n s5 ⟨i, H5, I5, st5, n5, w5⟩
      rcases turn i n H5 w5 with ⟨stop, qq⟩ | ⟨go, Nx, hNx, step⟩
      · refine thnF (T.done (X.blk sB HB scope ce fp) rfl rfl rfl hc i [] s5 _ H5 (fun _ _ => False) I5 (fpk I5 n5) st5 stop) fun r s6 ⟨hr, I6⟩ => ?_
        subst hr
        have I7 : Inv X pins σ H5 s6 := IB.call' (ch := fp) I6.os I6.base I6.hok I6.bare fun b hb => ⟨(fB b hb).1.2.2.2.1, (fB b hb).1.2.1, (fB b hb).1.2.2.2.2.1, (fB b hb).1.2.2.2.2.2⟩
        obtain ⟨m, hn, _⟩ := I6.loc
        have nC : H5 ce.locals = none := I6.free
        exact fin D ce s6 m H5 I7 qq hn (IB.fpOk (Nat.le_of_eq ceL.symm) nC)
      · refine thnF (T.item (X.blk sB HB scope ce fp) rfl rfl rfl hc i [] s5 _ H5 (fun _ _ => False) I5 (fpk I5 n5) st5 go) fun r s6 ⟨u, hr, h6⟩ => ?_
        subst hr
        refine thnF h6 fun _ s7 ⟨x, H7, I7, r7, y7, st7, n7⟩ => ?_
        refine thnF (pg.run _ s7 _ H7 x u _ (I7.pinned (fpk I7 n7) (T.obj _ _ st7)) r7 (step x H7 y7)) fun _ s8 ⟨σ8, H8, I8, hw8, q8⟩ => ?_
        refine wpAny_pure ?_
        show wpAny _ X.A (eval elt ce) _ _ s8
        refine wpAny_mono ((pe (notedBy (model X.prog X.w) X.A ce fun e s' => compEnds (model X.prog X.w) X.A X.xe use Qf (.ref D) ce (.error e) s') fun pins' σ' H' s0 e s1 I' c =>
          blk_raise (σ := σ) (pins := pins) hst hfr tk hW IB (Inv.unwish I') ceL ceF (fun b hb => (fB b hb).1) c).run _ s8 σ8 H8 _ (I8.wish _) q8) (fun z s10 ⟨yv, H10, I10, r10, acc, hD10, hz10, nx⟩ => ?_) fun _ _ z => z
        refine thnF (app_ok (X := X.blk sB HB scope ce fp) (E := fun _ _ => False) (Q := fun _ s' => ∃ m, m < n ∧ ∃ i H', Inv (X.blk sB HB scope ce fp) [] (wipe σ (own.map (·.2))) H' s' ∧ tn i s'.heap ∧ (∀ b ∈ fp, H' b = none) ∧ W' i m H') I10.unwish hD10 hz10 r10 fun s11 I11 => ?_) fun _ _ z => z
        obtain ⟨m', hm, w'⟩ := hNx _ nx
        have pin' : ∀ b ∈ fp, ∀ o, s7.heap.get? b = some o → s11.heap.get? b = some o ∧ (upd H10 D (.lst (acc ++ [yv]))) b = none := fun b hb o e =>
          have z := I11.pin (b, o) (List.mem_append_right _ (List.mem_append_right _ (mem_pinsAt hb e)))
          ⟨z.1, z.2.1⟩
        have hl : (wipe σ (own.map (·.2))).length = σ8.length := by rw [← hw8, wipe_length]
        refine ⟨m', hm, i + 1, _, (I11.unpinned (pins := [])).weak hl (fun j v e => ?_), T.keep _ _ _ st7 fun b hb o e => (pin' b hb o e).1, fun b hb => ?_, w'⟩
        · rw [← hw8] at e
          exact (wipe_some e).1
        · obtain ⟨o, e, _⟩ := T.obj _ _ st7 b hb
          exact (pin' b hb o e).2
    exact codeAny_compStart_list loop (T.self X.A 0 _ _ _ tC loop)
  rw [hsC, hcl] at goal
  exact goal
/-- name = [..] on one line, the name a local; the element may raise -/
theorem ps_setLcX {i : Nat} {y : Str} {py : Pos} {elt tg iter : Expr} {scope : Scope} {own : List (Str × Nat)} {pos spos : Pos} {wi : TI} {g : TG} {te : TE}
    (hst : X.stack = X.env :: X.outer) (hfr : X.env.frame = some X.env.locals) (tk : Takes X W) (hW : ∀ cls d σ H, E' cls d H → W cls d σ H)
    (hc : X.calm = true) (hN : X.N.Nodup) (hy : X.N[i]? = some y) (hyl : X.env.scope.names.lookup y = some .local)
    (hsw : swapsWith (.ListComp elt [⟨tg, iter, [], 0⟩] scope pos) (some (.Name y py)) spos.line X.env = pure true) (hi : PI X tg iter wi) (ok : BlkOk X.N X.env.scope scope own)
    (hg : ∀ (s : Shared) (H : Hp) (C : Addr) (cl : List (Str × Addr)) (fp : List Addr), PG (X.blk s H scope (compEnvC scope cl C X.env) fp) tg g)
    (he : ∀ (s : Shared) (H : Hp) (C : Addr) (cl : List (Str × Addr)) (fp : List Addr) (xe : Value → Shared → Prop), Passes (CX X.prog X.w) ((X.blk s H scope (compEnvC scope cl C X.env) fp).wish xe) E' → PE ((X.blk s H scope (compEnvC scope cl C X.env) fp).wish xe) elt te)
    (hs : ∀ x, foldedSetIterable iter X.env x = pure x := by intro _; rfl) :
    PS X (.Assign [.Name y py] (.ListComp elt [⟨tg, iter, [], 0⟩] scope pos) spos) (tAsg (tLcX wi g te (own.map (·.2))) (gName i)) := by
  refine ⟨fun pins s σ H D I h => ?_⟩
  rw [exec_Assign_Name_used _ _ _ _ hsw]
  refine wpAny_bind (wpAny_standAt (wpAny_bind ?_))
  show wpAny _ X.A (do let _ ← comprehension (.ListComp elt [⟨tg, iter, [], 0⟩] scope pos) scope X.env (firstIterPos [⟨tg, iter, [], 0⟩] pos) (newList []) false (eval iter X.env) (some (assign (.Name y py) X.env))) _ _ s
  have h' : tLcX wi g te (own.map (·.2)) σ H (fun x H1 => gName i x σ H1 D.nx) := h
  refine wpAny_bind (thn (lcx_core (Qf := fun _ s' => SP X pins D .next s') hst hfr tk hW hc hN I hi ok hg he hs h' fun L ce s' m H' I' q hn f => ?_) fun _ s' hq => wpAny_pure (wpAny_pure hq))
  show wpAny _ _ (assign (.Name y py) X.env (.ref L)) _ _ _
  refine wpAny_assign_Name (store_ok2 (v := V.ref L) I' hN hy (.inl hyl) rfl (fun s2 I2 ⟨a, sb, ha⟩ => ?_) (.inr hyl))
  obtain ⟨f0, f1, f2, f3, f4, f5⟩ := f
  have haC : ce.locals ≠ a := ha.elim (fun z => by rw [z]; exact f1) fun z e => f4 y a z e.symm
  exact ⟨m, hn.sameBut sb haC, fun h3 sb3 => ⟨_, H', I2.turned (t' := s2.toks) (fun b o hb e => (sb3.2 b hb).trans e) f0 f1 f3 f4 f5, q⟩⟩
end
/-- a list of one's own is put aside while e is evaluated: it stands behind e as it stood -/
theorem pe_frame {X : Cx} {e : Expr} {te : TE} (he : PE X e te) : PE X e (fun σ H Q => ∃ (D : Addr) (xs : List V), H D = some (.lst xs) ∧ te σ (del H D) fun v H' => H' D = none → Q v (upd H' D (.lst xs))) := by
  refine ⟨fun pins s σ H Q I h => ?_⟩
  obtain ⟨D, xs, hD, h⟩ := h
  obtain ⟨hz, its, n, hv, ho⟩ := (show ObjOk X.prog X.w H s.heap D (.lst xs) from I.hok D _ hD)
  have dn : ∀ {b : Addr}, H b = none → b ≠ D := fun {b} z q => by rw [q, hD] at z; cases z
  have dk : ∀ {b : Addr} {o : HO}, H b = some o → (∀ ys, o ≠ .lst ys) → del H D b = some o := fun {b o} z q => by
    have hb : b ≠ D := fun y => by
      rw [y, hD] at z
      exact q _ (Option.some.inj z).symm
    rw [del_ne hb]
    exact z
  have d0 : ∀ {b : Addr}, H b = none → del H D b = none := fun {b} z => by rw [del_ne (dn z)]; exact z
  have I1 : Inv X (pins ++ [(D, ({ cls := .type "list", data := .seq its.toArray n } : Obj))]) σ (del H D) s := {
    ok := I.ok
    os := I.os
    bare := I.bare
    base := { keep := I.base.keep, slot := I.base.slot, free := fun b o z1 z2 z3 => d0 (I.base.free b o z1 z2 z3), there := I.base.there,
              tups := fun b ys z => dk (I.base.tups b ys z) (fun _ q => by cases q), frzs := fun b o u z => dk (I.base.frzs b o u z) (fun _ q => by cases q),
              tbls := fun b ps z => by
                obtain ⟨more, q⟩ := I.base.tbls b ps z
                exact ⟨more, dk q (fun _ q => by cases q)⟩ }
    loc := I.loc
    cell := I.cell
    free := d0 I.free
    freeC := fun x c z => d0 (I.freeC x c z)
    pin := fun p hp => by
      rw [← List.append_assoc] at hp
      rcases List.mem_append.mp hp with hp | hp
      · obtain ⟨z1, z2, z3⟩ := I.pin p hp
        exact ⟨z1, d0 z2, z3⟩
      · have e1 := List.mem_singleton.mp hp
        subst e1
        refine ⟨ho, del_same, (dn I.free).symm, fun hm => ?_, fun v z => by cases z⟩
        have z := I.stkFree
        rcases I.ok.stk with q | ⟨q, _⟩
        · exact dn (z D (by rw [q]; exact hm)) rfl
        · refine dn (z D ?_) rfl
          rw [q]
          obtain ⟨ev, he', hq⟩ := List.mem_filterMap.mp hm
          exact List.mem_filterMap.mpr ⟨ev, List.mem_cons_of_mem _ he', hq⟩
    hok := fun b o z => by
      have hb : b ≠ D := fun q => by rw [q, del_same] at z; cases z
      rw [del_ne hb] at z
      exact (I.hok b o z).stay (fun _ _ _ y => y) (fun c hc => dk hc (fun _ q => by cases q)) (fun c ys hc => dk hc (fun _ q => by cases q))
    len := I.len }
  refine thn (he.run _ s σ (del H D) _ I1 h) fun u s1 ⟨v, H1, J, r, q⟩ => ?_
  obtain ⟨p1, p2, p3, p4, p5⟩ := J.pin (D, _) (List.mem_append_right _ (List.mem_append_right _ (List.mem_singleton.mpr rfl)))
  have J1 := J.unpinned (pins := pins)
  have u0 : ∀ {b : Addr}, H1 b = none → b ≠ D → upd H1 D (.lst xs) b = none := fun {b} z y => by rw [upd_ne y]; exact z
  have uk : ∀ {b : Addr} {o : HO}, H1 b = some o → upd H1 D (.lst xs) b = some o := fun {b o} z => by rw [upd_ne (ne_of_none z p2)]; exact z
  refine ⟨v, _, ?_, r, q p2⟩
  exact {
    ok := J1.ok
    os := J1.os
    bare := J1.bare
    base := { keep := J1.base.keep, slot := J1.base.slot, free := fun b o z1 z2 z3 => u0 (J1.base.free b o z1 z2 z3) (dn (I.base.free b o z1 z2 z3)), there := J1.base.there,
              tups := fun b ys z => uk (J1.base.tups b ys z), frzs := fun b o u z => uk (J1.base.frzs b o u z),
              tbls := fun b ps z => by
                obtain ⟨more, q⟩ := J1.base.tbls b ps z
                exact ⟨more, uk q⟩ }
    loc := J1.loc
    cell := J1.cell
    free := u0 J1.free (dn I.free)
    freeC := fun x c z => u0 (J1.freeC x c z) (dn (I.freeC x c z))
    pin := fun p hp => by
      obtain ⟨z1, z2, z3⟩ := J1.pin p hp
      exact ⟨z1, u0 z2 (dn (I.pin p hp).2.1), z3⟩
    hok := fun b o z => by
      by_cases hb : b = D
      · subst hb
        rw [upd_same] at z
        cases z
        exact ⟨hz, its, n, hv, p1⟩
      · rw [upd_ne hb] at z
        exact (J1.hok b o z).stay (fun _ _ _ y => y) (fun c hc => uk hc) (fun c ys hc => uk hc)
    len := J1.len }
end L2
/-! An own error class over ValueError whose __init__ says super().__init__(a text) and then stores one field. -/
namespace K9
open PySem PySem.W PySem.Calls PySem.Spec PyProof.Rows L2
/-- super().__init__(..) of an error that is being made -/
theorem call_mw {prog : Program} {w : World} {A : Around} {E : Value → Shared → Prop} {h : Heap} {g : Array GenState} {d : Drawn} {t : Nat} {os : OsState}
    {nm q : Str} {C N : Addr} {bs bm : List Value} {hdct : Bool} {sn : List Str} {sub : List Value} {ab : Bool} {col : Option Bool} {dd : Option Addr} {k0 k1 k2 k3 k5 : Option Value}
    {u e t0 : Addr} {rest : List Value} {Q : Value → Shared → Prop}
    (hC : h.get? C = some (excClassObj nm q C N bs bm hdct sn sub ab col dd k0 k1 k2 k3 k5 "ValueError.__new__")) (he : h.get? e = some (HandSPX.excO C t0)) (hu : h.get? u = some (kxs_mw "ValueError.__init__" e)) (hrest : rest.length ≤ sizeLine)
    (hq : ∀ h' t1, (∀ b o, b ≠ e → h.get? b = some o → h'.get? b = some o) → h'.get? e = some (HandSPX.excO C t1) → Q .none ⟨h', g, d, t, os⟩) :
    wpAny (model prog w) A (call (.ref u) rest) Q E ⟨h, g, d, t, os⟩ := by
  refine wpAny_call (codeAny_of_tree ?_)
  show wpAny _ A.in1 (callAny (.ref u) ⟨rest, []⟩) _ _ _
  simp only [callAny]
  refine wpAny_bind (wpAny_load hu ?_)
  simp only [kxs_mw, show (Value.type "method-wrapper" == Value.type "method" || Value.type "method-wrapper" == Value.type "builtin_function_or_method" || Value.type "method-wrapper" == Value.type "method-wrapper") = true by decide, if_true]
  refine KFB.if_so (by decide) ?_
  refine wpAny_bind (check_bound_init F.excBase_ValueError.toExcCallFacts hC he rfl ?_)
  refine wpAny_bind (wpAny_pure (wpAny_pure ?_))
  refine ⟨plainId_quiet F.excBase_ValueError.init.plain _, codeAny_builtin F.excBase_ValueError.initEntry ?_⟩
  rw [Around.under_plainId F.excBase_ValueError.init.plain _]
  wp_walk
  refine hq _ h.objs.size (fun b o hb ho => ?_) ?_
  · rw [Heap.get?_update_other _ _ (Ne.symm hb)]
    exact Heap.get?_push_of_some _ ho
  · rw [Heap.get?_update_self _ (Heap.get?_push_of_some _ he) rfl]
    rfl
/-- what the written part says of the class -/
structure SupC (P : Program) (K : PySem.W.Frag) (mg : Str → Option Value) (C fI : Addr) : Prop where
  T : OexC K C
  iC : findIn K (.ref C) "__init__" = some (some (.ref fI))
  tI : typeIn K (.ref fI) = some (.type "function")
  ex : ∃ oc od kV doc pm an cda ct osl cc, K.lookup fI = some ⟨oc, od, .func (fnX "__init__" "Unbounded.__init__" (defArgs sUnb) (defBody sUnb) (defScope sUnb) [("__class__", cc)] .none kV doc pm an (.ref cda) ct), osl⟩ ∧ codeIn K (.ref cda) "Unbounded.__init__" = true ∧
    (∃ ccl cdd vs ccs file tf, K.lookup cda = some ⟨ccl, cdd, .fields vs, ccs⟩ ∧ vs[2]? = some (.str file tf) ∧ ((P.main.file : Str) == file) = true) ∧
    (∃ cl cld csl, K.lookup cc = some ⟨cl, cld, .cell (some (.ref C)), csl⟩)
  opq : nsIn K cStatics "thirdparty.any" = some none
  sup : ks_superIn K C C "__init__" = some (some (.builtin "ValueError.__init__"))
  hB : subIn K (.ref C) (.type "ValueError") = some true
  hS : mroIn K C (.ref C) = some true
  hD : ∃ cd, clsIn K C = some cd
  gS : mg "super" = none
  nN : findIn K (.ref C) "name" = some none
  top : (P.main.scope.names.lookup ("super" : Str)).isSome = false
/-- the reading of C(e) for such a class -/
def tMkS (C : Addr) (ta : TA) : L2.St → Hp → XK → Prop := fun σ H Q => ta σ H fun vs H1 => ∃ y, vs = [y] ∧ ∀ d, H1 d = none → Q (.ref C) (some d) (upd H1 d (.xd [("name", y)]))
section
variable {X : Cx} {C fI : Addr}
theorem pmk_sup {e : Expr} {ta : TA} {x : Str} {p pos : Pos} (S : SupC X.prog X.K X.mg C fI) (hr : Room 2 X.A) (hg : Gl X x) (hm : X.mg x = some (.ref C)) (he : PA X [e] ta)
    (hdb : (x == ("__debug__" : Str)) = false := by decide) (hst : starEach [e] X.env = (false, eval e X.env) :: starEach [] X.env := by rfl) (hpl : (backTo pos (starEach [] X.env)).any (·.1) = false := by rfl) :
    PMk X (.Call (.Name x p) [e] [] pos) (tMkS C ta) := by
  intro pins s σ H Q I h
  obtain ⟨nm, q, N, bs, bm, sn, sub, ab, col, dd, k0, k1, k2, k3, k5, hC, hbm⟩ := S.T.cls
  obtain ⟨oc, od, kV, doc, pm, an, cda, ct, osl, cc, hfI, hcd, ⟨ccl, cdd, vs, ccs, file, tf, hcda, hvs, hfile⟩, ⟨cl, cld, csl, hcell⟩⟩ := S.ex
  obtain ⟨cdC, hclC⟩ := S.hD
  refine wpAny_Call_Name_kw (ld_glob I hg hm ?_ hdb)
  refine PySem.W.callWith_K (h₀ := X.base) I.ok.mod.kin S.T.kC (thn (he.run pos pins s σ H _ I h) fun us s1 ⟨vs', H1, I1, r1, y, ev, q1⟩ => ⟨I1.kIn, ?_⟩) hst hpl
  subst ev
  obtain ⟨u, rfl, ry⟩ := vals1 r1
  show wpAny _ _ (call (.ref C) [u]) _ _ _
  obtain ⟨hp, g, dr, tk, os⟩ := s1
  have X0 : X.K.In hp := I1.kIn
  generalize hea : hp.objs.size + 1 = a
  have kk : ∀ b o, hp.get? b = some o → ((hp.push (PySem.W.kdv_tup [u])).push (PySem.HandSPX.excO C hp.objs.size)).get? b = some o := fun b o e => Heap.get?_push_of_some _ (Heap.get?_push_of_some _ e)
  have hget : ((hp.push (PySem.W.kdv_tup [u])).push (PySem.HandSPX.excO C hp.objs.size)).get? a = some (PySem.HandSPX.excO C hp.objs.size) := by rw [← hea]; heap_get
  have hasz : hp.objs.size ≤ a := by rw [← hea]; exact Nat.le_succ _
  refine wpAny_call (PySem.HandSPX.call_own F.excBase_ValueError (fun Y => PySem.HandSPX.refsVE_contains Y bm hbm) (X0 _ _ hC) (PySem.W.looks_findIn X0 S.iC) (fun self => PySem.W.bind_fn X0 self S.tI) (by show 1 ≤ sizeLine; decide) ?_)
  rw [hea]
  generalize hh0 : (hp.push (PySem.W.kdv_tup [u])).push (PySem.HandSPX.excO C hp.objs.size) = h0 at kk hget ⊢
  have X1 : X.K.In h0 := X0.keeps kk
  have hr1 := hr.make C [u] []
  have lim : h0.NoLimit := (I1.nolimit).keeps kk
  refine ks_codeAny_call_defAt (fd := fnX "__init__" "Unbounded.__init__" (defArgs sUnb) (defBody sUnb) (defScope sUnb) [("__class__", cc)] .none kV doc pm an (.ref cda) ct) (body := defBody sUnb) (binds := [("self", .ref a), ("name", u)]) hr1.depth (X1 _ _ hfI) rfl lim (PySem.W.codeRec_of X1 hcd) rfl (.of_eq rfl)
    (show ∀ z ∈ (defScope sUnb).names, z.2 ≠ .cell by decide +kernel) (fun z hz => ?_) (fun h1 hns hk1 => ?_) rfl rfl rfl
  · show (defScope sUnb).names.lookup z.1 = some .local
    rcases List.mem_cons.mp hz with rfl | hz
    · exact (show (defScope sUnb).names.lookup ("self" : Str) = some .local by decide +kernel)
    · rcases List.mem_cons.mp hz with rfl | hz
      · exact (show (defScope sUnb).names.lookup ("name" : Str) = some .local by decide +kernel)
      · cases hz
  generalize hL : h0.objs.size = L at hns ⊢
  have X2 : X.K.In h1 := X1.keeps hk1
  have hsn : ∀ y : Str, ((([("self", Value.ref a), ("name", u)] : List (Str × Value)).reverse).lookup y) = if y = "name" then some u else if y = "self" then some (Value.ref a) else none := fun y => by
    show List.lookup y [(("name" : Str), u), (("self" : Str), Value.ref a)] = _
    by_cases e1 : y = "name"
    · rw [if_pos e1, e1]; simp [List.lookup]
    · by_cases e2 : y = "self"
      · rw [if_neg e1, if_pos e2, e2]
        have : (("self" : Str) == ("name" : Str)) = false := by decide +kernel
        simp [List.lookup, this]
      · rw [if_neg e1, if_neg e2]
        have z1 : (y == ("name" : Str)) = false := by simpa using e1
        have z2 : (y == ("self" : Str)) = false := by simpa using e2
        simp [List.lookup, z1, z2]
  have vself : (([("self", Value.ref a), ("name", u)] : List (Str × Value)).reverse).lookup ("self" : Str) = some (Value.ref a) := by
    rw [hsn, if_neg (by decide +kernel), if_pos rfl]
  have vname : (([("self", Value.ref a), ("name", u)] : List (Str × Value)).reverse).lookup ("name" : Str) = some u := by
    rw [hsn, if_pos rfl]
  generalize hmf : (fun x => (([("self", Value.ref a), ("name", u)] : List (Str × Value)).reverse).lookup x) = mf at hns
  have hms : mf ("self" : Str) = some (Value.ref a) := by rw [← hmf]; exact vself
  have hmn : mf ("name" : Str) = some u := by rw [← hmf]; exact vname
  have hg1 : h1.get? a = some (PySem.HandSPX.excO C hp.objs.size) := hk1 _ _ hget
  have hLa : a ≠ L := by rw [← hL]; exact Nat.ne_of_lt (Heap.lt_size hget)
  have all1 : ∀ b o, hp.get? b = some o → h1.get? b = some o := fun b o e => hk1 b o (kk b o e)
  -- super().__init__('..')
  refine ks_wpAt_execs_cons (ks_wpAt_Expr_any (ks_wpAt_MethodCall ?_) rfl rfl)
  refine ks_wpAt_super_base (fd := fnX "__init__" "Unbounded.__init__" (defArgs sUnb) (defBody sUnb) (defScope sUnb) [("__class__", cc)] .none kV doc pm an (.ref cda) ct) (ar := _) (show (defScope sUnb).names.lookup ("super" : Str) = some .globalImplicit by decide +kernel) (show (defScope sUnb).names.lookup ("__class__" : Str) = some .free by decide +kernel) (by decide +kernel) rfl (X2 _ _ hfI) rfl rfl rfl (X2 _ _ hcda) rfl hvs hfile S.top ?_
  obtain ⟨mb, hnb, hbb⟩ := I1.mod.blt
  have keepB : ∀ b o, X.base.get? b = some o → h1.get? b = some o := fun b o e => all1 b o ((I1.bs b o e).1)
  refine ks_loadName_global rfl (show (defScope sUnb).names.lookup ("super" : Str) = some .globalImplicit by decide +kernel) (loadGlobal_builtin (mg := X.mg) (mb := mb) (I1.mod.glob.keeps keepB) S.gS (hnb.keeps keepB) ((hbb _ (by decide +kernel)).trans (show bootBuiltins "super" = some (.type "super") by kernel_rfl)) ⟨rfl, ?_⟩)
  refine wpAny_loadName_free (c := cc) rfl (show (defScope sUnb).names.lookup ("__class__" : Str) = some .free by decide +kernel) rfl ⟨_, X2 _ _ hcell, rfl⟩ ?_
  refine wpAny_loadName_local rfl (show (defScope sUnb).names.lookup ("self" : Str) = some .local by decide +kernel) hns hms ?_
  obtain ⟨oD, hD1, hD2⟩ : ∃ oD, h1.get? C = some oD ∧ oD.data = .cls cdC := by
    unfold clsIn at hclC
    split at hclC
    · rename_i c d' cd' sl ho
      cases hclC
      exact ⟨_, X2 _ _ ho, rfl⟩
    · cases hclC
  refine ks_wpAny_isType_cls hD1 hD2 ⟨rfl, ?_⟩
  refine ks_wpAny_call_super hD1 hD2 hg1 rfl (fun c e => by cases e) (looks_mroIn X2 S.hS) (fun h2 hso k2 => ?_)
  have X3 : X.K.In h2 := X2.keeps k2
  have hg2 := k2 _ _ hg1
  have I3 : PySem.W.InstAt h2 a (PySem.HandSPX.excO C hp.objs.size) C none := ⟨hg2, rfl, rfl, trivial⟩
  have hIs : Looks (model X.prog X.w) h2 (isInstance (.ref a) (.type "ValueError")) true := I3.type.andThen (looks_subIn X3 S.hB)
  have hsup := S.sup
  unfold ks_superIn at hsup
  rw [hclC] at hsup
  refine kxs_getMethod kxs_ValueError hso (looks_opaque X3 S.opq) (l₀ := cdC.mro) (fun A Q E s k q => wpAny_bind ((looks_clsIn X3 hclC) A _ E s k (wpAny_pure q))) rfl X3 hsup hIs (ks_ne X3 I3 hclC) (by decide +kernel) ?_
  generalize hu : h2.objs.size = um
  have hum : (h2.push (kxs_mw "ValueError.__init__" a)).get? um = some (kxs_mw "ValueError.__init__" a) := by rw [← hu]; heap_get
  have k3 : ∀ b o, h2.get? b = some o → (h2.push (kxs_mw "ValueError.__init__" a)).get? b = some o := fun b o e => Heap.get?_push_of_some _ e
  generalize h2.push (kxs_mw "ValueError.__init__" a) = h3 at hum k3 ⊢
  have hg3 := k3 _ _ hg2
  have X4 : X.K.In h3 := X3.keeps k3
  refine kxs_callWith (i := "ValueError.__init__") (x := a) rfl (evalArgs_plain (spliced_cons (Constant_str (k := 0) (pos := ⟨27, 25, 27, 41⟩) (spliced_nil ⟨hum, ?_⟩))))
  refine call_mw (X4 _ _ hC) hg3 hum (by show 1 ≤ sizeLine; decide) (fun h4 t1 k4 hg4 => ?_)
  -- self.name = name
  refine wpAt_of_wpAny ?_
  have nL : L ≠ a := fun z => hLa z.symm
  have hns4 : h4.Ns L mf := (((hns.keeps k2).keeps k3).at fun o e => k4 _ _ nL e)
  have X5 : X.K.In h4 := fun b o e => by
    have hb : b ≠ a := fun z => by
      have y1 := X0 b o e
      have y2 := Heap.lt_size y1
      rw [z] at y2
      exact absurd y2 (Nat.not_lt.mpr hasz)
    exact k4 b o hb (X4 b o e)
  refine wpAny_execs_cons (plainObj_wpAny_Assign_Attribute (wpAny_Name (wpAny_loadName_local rfl (show (defScope sUnb).names.lookup ("name" : Str) = some .local by decide +kernel) hns4 hmn ?_) (by decide))
    (show swapsWith (.Name "name" _) _ _ _ = pure false from rfl))
  refine wpAny_Name (wpAny_loadName_local rfl (show (defScope sUnb).names.lookup ("self" : Str) = some .local by decide +kernel) hns4 hms ?_) (by decide)
  have hcl : PySem.W.clsIn X.K C = some { name := nm, bases := bs, mro := .ref C :: bm, ns := N, qualname := q, hasDict := true, slotNames := sn, subclasses := sub, abstract := ab, collection := col, hasDel := false } := by unfold PySem.W.clsIn; rw [hC] <;> rfl
  refine PySem.W.set_plain X5 (ox := { cls := .ref C, dict := none, data := .fields #[.ref t1, .none, .none, .none, .bool false, .none] }) (od := none) ⟨hg4, rfl, rfl, trivial⟩ S.T.sa ?_
  refine PySem.HandSPX.exc_osa X5 hg4 hcl (show PySem.HandSPX.refsVE (.ref C :: bm) = true from hbm) rfl S.nN (fun h5 tk5 dx k5' dn dne hx hn => ?_)
  refine wpAny_execs_nil ?_
  have all5 : ∀ b o, hp.get? b = some o → h5.get? b = some o := fun b o e => by
    have hb : b ≠ a := fun z => absurd (Heap.lt_size (show hp.get? a = some o by rw [← z]; exact e)) (Nat.not_lt.mpr hasz)
    exact k5' b o hb (k4 b o hb (k3 b o (k2 b o (all1 b o e))))
  have sz5 : hp.objs.size ≤ h4.objs.size := by
    obtain ⟨oL, _, _, e1, _⟩ := hns4
    have z1 : L < h4.objs.size := Heap.lt_size e1
    have z2 : a < L := by rw [← hL]; exact Heap.lt_size hget
    exact Nat.le_trans hasz (Nat.le_of_lt (Nat.lt_trans z2 z1))
  show Value.none = Value.none ∧ MkP X pins σ Q (.ref a) _
  refine ⟨rfl, ?_⟩
  obtain ⟨G, g1, g2⟩ := restrict h5 fun b => decide (b ≠ a)
  have gk : ∀ b, b ≠ a → G.get? b = h5.get? b := fun b hb => g1 b (decide_eq_true hb)
  have ge : G.get? a = none := g2 a (by simp)
  have hna : H1 a = none := I1.hok.fresh hasz
  have hdn : H1 dx = none := I1.hok.fresh (Nat.le_trans sz5 dn)
  have nha : ∀ {b : Addr} {o : Obj}, hp.get? b = some o → b ≠ a := fun {b o} z => Nat.ne_of_lt (Nat.lt_of_lt_of_le (Heap.lt_size z) hasz)
  have nhd : ∀ {b : Addr} {o : Obj}, hp.get? b = some o → b ≠ dx := fun {b o} z => Nat.ne_of_lt (Nat.lt_of_lt_of_le (Heap.lt_size z) (Nat.le_trans sz5 dn))
  have kG : ∀ b o, hp.get? b = some o → G.get? b = some o := fun b o z => by rw [gk b (nha z)]; exact all5 b o z
  have U : Un (frs X.stack) [] H1 (upd H1 dx (.xd [("name", y)])) hp G := {
    keep := fun b o z n hf hx => kG b o z
    slot := fun b o z n hf hx => ⟨o.slots, kG b o z⟩
    free := fun b o z n hx => by rw [upd_ne (nhd z)]; exact n
    there := fun b o z hx => ⟨o, kG b o z⟩
    tups := fun b xs z => by rw [upd_ne (ne_of_none z hdn)]; exact z
    frzs := fun b o v z => by rw [upd_ne (ne_of_none z hdn)]; exact z
    tbls := fun b ps z => ⟨#[], by rw [upd_ne (ne_of_none z hdn), z]; simp⟩ }
  have hok : HOk X.prog X.w (upd H1 dx (.xd [("name", y)])) G := fun b o z => by
    by_cases hb : b = dx
    · subst hb
      rw [upd_same] at z
      cases z
      exact ⟨_, hn.at fun o e => (gk _ dne).trans e, relO_put (fs := []) ry fun g => True.intro⟩
    · rw [upd_ne hb] at z
      exact (I1.hok b o z).stay (fun c v hc e => kG c v e) (fun c hc => by rw [upd_ne (ne_of_none hc hdn)]; exact hc) (fun c xs hc => by rw [upd_ne (ne_of_none hc hdn)]; exact hc)
  have J : L2.Inv X pins σ (upd H1 dx (.xd [("name", y)])) ⟨G, g, dr, tk5, os⟩ := I1.call' (ch := []) rfl U hok I1.bare (fun b z => absurd z (by simp))
  refine ⟨a, _, _, ⟨G, g, dr, tk5, os⟩, _, .ref C, some dx, rfl, J, fun b o z => ?_, ge, hx, ⟨rfl, rfl⟩, rfl, rfl, ?_, rfl, I1.bare, raises_own S.T.exC S.T.tyC, q1 dx hdn⟩
  · by_cases hb : b = a
    · rw [hb, ge] at z; cases z
    · exact (gk b hb).symm.trans z
  · rw [upd_ne (Ne.symm dne)]; exact hna
end
end K9
/-! isinstance(e, c) of a caught error of an own class that has a dict of its own. -/
namespace L2
open PySem PySem.Spec PyProof.Rows
def rIsED (K : PySem.W.Frag) (D a : Addr) (cls : Value) (d : Option Addr) : List V → Hp → VK → Prop := fun xs H Q => ∃ (c : V) (cv : Value) (b : Bool) (dd : Addr) (fs : List (Str × V)), xs = [.ref a, c] ∧ cls = .ref D ∧ (∀ u, RelV c u → u = cv) ∧ d = some dd ∧ H dd = some (.xd fs) ∧ PySem.W.kitOne K (.ref D) cv = some b ∧ Q (.bl b) H
theorem call_isED {X : Cx} {a D : Addr} {cls : Value} {d : Option Addr} {oe : Obj} {pn : List (Addr × Obj)} (C : ExcC X.K D) (hz : Zc cls d oe) (hf : ∃ vs, oe.data = .fields vs) : CallR (X.suite a ((a, oe) :: pn)) (.builtin "isinstance") (rIsED X.K D a cls d) := by
  intro pins s σ H xs us Q I r h
  obtain ⟨c, cv, b, dd, fs, rfl, rfl, hcv, rfl, hd, e, q⟩ := h
  obtain ⟨u1, u2, rfl, r1, r2⟩ := vals2 r
  obtain rfl : u1 = Value.ref a := r1
  obtain rfl := hcv _ r2
  obtain ⟨hget, _⟩ := I.pin (a, oe) (List.mem_append.mpr (.inl List.mem_cons_self))
  obtain ⟨vs, hv⟩ := hf
  have hx : ObjOk X.prog X.w H s.heap dd (.xd fs) := I.hok dd _ hd
  obtain ⟨mA, hns, _⟩ := hx
  obtain ⟨od, es, ep, ho, _⟩ := hns
  have J : PySem.W.InstAt s.heap a oe D (some od) := ⟨hget, hz.1, by unfold PySem.W.notCls; rw [hv] <;> rfl, by rw [hz.2]; exact ho⟩
  have hcl : (PySem.W.clsIn X.K D).isSome = true := by
    obtain ⟨cd, hc, _⟩ := PySem.W.any_some C.hd
    rw [hc] <;> rfl
  exact PySem.W.kia_one (PySem.W.kitx_exc hcl C.hg C.hk C.hs C.ha C.hn C.ht C.hm) I.kIn J e (fun z => nomatch z) fun tk => ⟨.bl b, H, I.kept (t' := tk) fun _ _ z => z, rfl, q⟩
end L2
/-! What the walk asks of the text as the top has made it. -/
namespace K9
open PySem L2
structure Fd where
  a : Addr
  d : FuncData
structure Adr extends Cl where
  cU : Addr
  cF : Addr
  cM : Addr
  uI : Addr
  rI : Fd
  rF : Fd
  rT : Fd
  rW : Fd
  rS : Fd
  rL : Fd
  kI : Fd
  kF : Fd
  kS : Fd
  kN : Fd
  kC : Fd
  kU : Fd
  kB : Fd
  kZ : Fd
  kT : Fd
  sg : Fd
  lk : Fd
  iI : Fd
  iV : Fd
  iP : Fd
  iF : Fd
  iJ : Fd
  iG : Fd
  iC : Fd
  inf : Fd
  qS : Fd
  qT : Fd
  qC : Fd
  qZ : Fd
  qO : Fd
  qD : Fd
  aI : Addr
  aB : Addr
  aU : Addr
  aC : Addr
/-- a def of the text, and how its arguments bind -/
structure FB (K : PySem.W.Frag) (x qual : Str) (st : Stmt) (f : Fd) (ps : List Str) : Prop where
  F : Fun K x qual st f.a f.d
  b : Binds K f.d ps []
structure FM (K : PySem.W.Frag) (C : Addr) (x qual : Str) (st : Stmt) (f : Fd) (ps : List Str) : Prop extends FB K x qual st f ps where
  m : Meth K C x f.a
structure FG (K : PySem.W.Frag) (mg : Str → Option Value) (x : Str) (st : Stmt) (f : Fd) (ps : List Str) : Prop extends FB K x x st f ps where
  g : mg x = some (.ref f.a)
/-- a constant of the text: a tuple of one text -/
def KT (K : PySem.W.Frag) (a : Addr) (x : Str) : Prop := ∃ (o : Obj) (its : Array Value) (n : Nat), K.lookup a = some o ∧ o.cls = .type "tuple" ∧ o.data = .seq its n ∧ its.size ≤ sizeLine ∧ Vals [.str x] its.toList
structure TxR (K : PySem.W.Frag) (mg : Str → Option Value) (A : Adr) : Prop where
  cl : Cls K A.cR
  mm : Mk K A.cR A.rI.a
  g : mg "Rows" = some (.ref A.cR)
  nl : NoAttr K A.cR "links"
  nn : NoAttr K A.cR "names"
  nf : NoAttr K A.cR "flows"
  I : FB K "__init__" "Rows.__init__" sRinit A.rI ["self"]
  F : FM K A.cR "fresh" "Rows.fresh" sRfresh A.rF ["self"]
  T : FM K A.cR "root" "Rows.root" sRroot A.rT ["self", "row"]
  W : FM K A.cR "flow" "Rows.flow" sRflow A.rW ["self", "source", "target", "without"]
  S : FM K A.cR "same" "Rows.same" sRsame A.rS ["self", "one", "other"]
  L : FM K A.cR "least" "Rows.least" sRleast A.rL ["self"]
structure TxK (K : PySem.W.Frag) (mg : Str → Option Value) (A : Adr) : Prop where
  cl : Cls K A.cK
  mm : Mk K A.cK A.kI.a
  g : mg "Kinds" = some (.ref A.cK)
  nr : NoAttr K A.cK "rows"
  nm : NoAttr K A.cK "meanings"
  I : FB K "__init__" "Kinds.__init__" sKinit A.kI ["self"]
  F : FM K A.cK "fresh" "Kinds.fresh" sKfresh A.kF ["self"]
  S : FM K A.cK "seen" "Kinds.seen" sKseen A.kS ["self", "known"]
  N : FM K A.cK "inner" "Kinds.inner" sKinner A.kN ["self", "known"]
  C : FM K A.cK "contains" "Kinds.contains" sKcontains A.kC ["self", "known", "variable"]
  U : FM K A.cK "unify" "Kinds.unify" sKunify A.kU ["self", "one", "other"]
  B : FM K A.cK "bind" "Kinds.bind" sKbind A.kB ["self", "one", "other"]
  Z : FM K A.cK "size_within" "Kinds.size_within" sKsize A.kZ ["self", "known", "room"]
  T : FM K A.cK "settled" "Kinds.settled" sKsettled A.kT ["self", "known", "rows"]
  u : mg "UNIT_kinds" = some (.ref A.aU) ∧ KT K A.aU "unit"
structure TxI (K : PySem.W.Frag) (mg : Str → Option Value) (A : Adr) : Prop where
  cl : Cls K A.cI
  mm : Mk K A.cI A.iI.a
  g : mg "Inferrer" = some (.ref A.cI)
  ns : NoAttr K A.cI "signatures"
  nk : NoAttr K A.cI "kinds"
  nr : NoAttr K A.cI "rows"
  nt : NoAttr K A.cI "types"
  no : NoAttr K A.cI "own_rows"
  I : FB K "__init__" "Inferrer.__init__" sIinit A.iI ["self", "operations"]
  V : FM K A.cI "visit" "Inferrer.visit" sIvisit A.iV ["self", "expression", "env"]
  P : FM K A.cI "part" "Inferrer.part" sIpart A.iP ["self", "expression", "env", "number"]
  F : FM K A.cI "fits" "Inferrer.fits" sIfits A.iF ["self", "number", "known"]
  J : FM K A.cI "judged" "Inferrer.judged" sIjudged A.iJ ["self", "expression", "env", "number"]
  G : FM K A.cI "function" "Inferrer.function" sIfunction A.iG ["self", "expression", "env"]
  C : FM K A.cI "composed" "Inferrer.composed" sIcomposed A.iC ["self", "head", "inner", "number"]
  s : FG K mg "signatures_of" sSigs A.sg ["operations"]
  l : FG K mg "looked_up" sLooked A.lk ["env", "name"]
  q : FG K mg "infer" sInfer A.inf ["program"]
  i : mg "INT" = some (.ref A.aI) ∧ KT K A.aI "int"
  b : mg "BOOL" = some (.ref A.aB) ∧ KT K A.aB "bool"
  z : ∃ t, mg "MOST_SIZE" = some (.int 1000 t)
structure TxL (K : PySem.W.Frag) (mg : Str → Option Value) (A : Adr) : Prop where
  S : FG K mg "_law_state" sLstate A.qS ["_law_script"]
  T : FG K mg "_law_take" sLtake A.qT ["_law_state_here", "_law_most"]
  C : FG K mg "_law_chain" sLchain A.qC ["_law_value", "_law_depth", "_law_last"]
  Z : FG K mg "_law_size" sLsize A.qZ ["_law_known"]
  O : FG K mg "_law_told" sLtold A.qO ["_law_expression"]
  D : FG K mg "_law_due" sLdue A.qD ["_law_known", "_law_depth"]
/-- built-in names that the module does not bind -/
structure TxB (mg : Str → Option Value) : Prop where
  len : mg "len" = none
  int : mg "int" = none
  str : mg "str" = none
  lst : mg "list" = none
  tup : mg "tuple" = none
  srt : mg "sorted" = none
  rng : mg "range" = none
  enu : mg "enumerate" = none
  zip : mg "zip" = none
  abs : mg "abs" = none
  isi : mg "isinstance" = none
structure Txt (P : Program) (w : World) (K : PySem.W.Frag) (mg : Str → Option Value) (A : Adr) : Prop where
  tR : TxR K mg A
  tK : TxK K mg A
  tI : TxI K mg A
  tL : TxL K mg A
  tB : TxB mg
  tU : SupC P K mg A.cU A.uI
  gU : mg "Unbounded" = some (.ref A.cU)
  con : mg "CONSTANTS" = some (.ref A.aC) ∧ ∃ es n, KDict K w A.aC es n ∧ PySem.W.nsIn K A.aC "num" = some (some (.ref A.aI)) ∧ ∀ x : Str, x ∈ (["name", "fun", "let", "pair", "fst", "not", "call"] : List Str) → PySem.W.nsIn K A.aC x = some none
/-! ### reads -/
section
variable {K : PySem.W.Frag} {σ : L2.St} {H : Hp} {Q : VK}
/-- x.f, x in slot i -/
theorem rdF {i : Nat} {f : Str} {a C dx : Addr} {fs : List (Str × V)} {v : V} (hs : σ[i]? = some (some (.ref a))) (ho : H a = some (.ins C dx fs)) (c : Cls K C) (n : NoAttr K C f) (l : fs.lookup f = some v) (q : Q v H) : tFld K (tVar i) f σ H Q :=
  ⟨_, hs, a, C, dx, fs, v, rfl, ho, c, n, l, q⟩
theorem rdF2 {te : TE} {f : Str} {a C dx : Addr} {fs : List (Str × V)} {v : V} (ho : H a = some (.ins C dx fs)) (c : Cls K C) (n : NoAttr K C f) (l : fs.lookup f = some v) (q : Q v H) :
    ∃ a' C dx fs v', V.ref a = .ref a' ∧ H a' = some (.ins C dx fs) ∧ Cls K C ∧ NoAttr K C f ∧ fs.lookup f = some v' ∧ Q v' H := ⟨a, C, dx, fs, v, rfl, ho, c, n, l, q⟩
end
theorem lkc {f g : Str} {v : V} {r : List (Str × V)} (h : (f == g) = false) : List.lookup f ((g, v) :: r) = List.lookup f r := by simp [List.lookup, h]
theorem lk0 {f : Str} {v : V} {r : List (Str × V)} : List.lookup f ((f, v) :: r) = some v := by simp [List.lookup]
section
variable (a b c d e : V)
theorem fRl : List.lookup ("links" : Str) [("links", a), ("names", b), ("flows", c)] = some a := lk0
theorem fRn : List.lookup ("names" : Str) [("links", a), ("names", b), ("flows", c)] = some b := (lkc (by decide +kernel)).trans lk0
theorem fRf : List.lookup ("flows" : Str) [("links", a), ("names", b), ("flows", c)] = some c := (lkc (by decide +kernel)).trans ((lkc (by decide +kernel)).trans lk0)
theorem fR0 {f : Str} (h : (f == ("links" : Str)) = false ∧ (f == ("names" : Str)) = false ∧ (f == ("flows" : Str)) = false) : List.lookup f [("links", a), ("names", b), ("flows", c)] = none := (lkc h.1).trans ((lkc h.2.1).trans (lkc h.2.2))
theorem fKr : List.lookup ("rows" : Str) [("rows", a), ("meanings", b)] = some a := lk0
theorem fKm : List.lookup ("meanings" : Str) [("rows", a), ("meanings", b)] = some b := (lkc (by decide +kernel)).trans lk0
theorem fK0 {f : Str} (h : (f == ("rows" : Str)) = false ∧ (f == ("meanings" : Str)) = false) : List.lookup f [("rows", a), ("meanings", b)] = none := (lkc h.1).trans (lkc h.2)
theorem fIs : List.lookup ("signatures" : Str) [("signatures", a), ("kinds", b), ("rows", c), ("types", d), ("own_rows", e)] = some a := lk0
theorem fIk : List.lookup ("kinds" : Str) [("signatures", a), ("kinds", b), ("rows", c), ("types", d), ("own_rows", e)] = some b := (lkc (by decide +kernel)).trans lk0
theorem fIr : List.lookup ("rows" : Str) [("signatures", a), ("kinds", b), ("rows", c), ("types", d), ("own_rows", e)] = some c := (lkc (by decide +kernel)).trans ((lkc (by decide +kernel)).trans lk0)
theorem fIt : List.lookup ("types" : Str) [("signatures", a), ("kinds", b), ("rows", c), ("types", d), ("own_rows", e)] = some d := (lkc (by decide +kernel)).trans ((lkc (by decide +kernel)).trans ((lkc (by decide +kernel)).trans lk0))
theorem fIo : List.lookup ("own_rows" : Str) [("signatures", a), ("kinds", b), ("rows", c), ("types", d), ("own_rows", e)] = some e := (lkc (by decide +kernel)).trans ((lkc (by decide +kernel)).trans ((lkc (by decide +kernel)).trans ((lkc (by decide +kernel)).trans lk0)))
theorem fI0 {f : Str} (h : (f == ("signatures" : Str)) = false ∧ (f == ("kinds" : Str)) = false ∧ (f == ("rows" : Str)) = false ∧ (f == ("types" : Str)) = false ∧ (f == ("own_rows" : Str)) = false) :
    List.lookup f [("signatures", a), ("kinds", b), ("rows", c), ("types", d), ("own_rows", e)] = none := (lkc h.1).trans ((lkc h.2.1).trans ((lkc h.2.2.1).trans ((lkc h.2.2.2.1).trans (lkc h.2.2.2.2))))
end
end K9
/-! The class Rows. -/
namespace K9
open PySem L2
/-! promises -/
def spRinit (A : Adr) : Sp := fun vs H Q _ => ∃ (p dx : Addr), vs = [.ref p] ∧ H p = some (.ins A.cR dx []) ∧ ∀ (a b c : Addr) (H' : Hp), H a = none → H b = none → H c = none → a ≠ b → a ≠ c → b ≠ c →
  H' p = some (.ins A.cR dx [("links", .ref a), ("names", .ref b), ("flows", .ref c)]) → H' a = some (.lst []) → H' b = some (.lst []) → H' c = some (.lst []) → (∀ d o, H d = some o → d ≠ p → H' d = some o) → Q .non H'
def spRfresh (K : PySem.W.Frag) (A : Adr) : Sp := fun vs H Q _ => ∃ (L : Lay) (s s' : S), vs = [.ref L.rw] ∧ At K A.toCl L H s ∧ freshR s = some s' ∧ ∀ H', Kp L H H' → At K A.toCl L H' s' → Q (.int (s.links.length : Nat)) H'
def spRflow (K : PySem.W.Frag) (A : Adr) : Sp := fun vs H Q _ => ∃ (L : Lay) (s s' : S) (a b : Nat) (w : Addr) (ys : List V), vs = [.ref L.rw, .int (a : Nat), .int (b : Nat), .ref w] ∧ SqL K H w ys ∧ At K A.toCl L H s ∧ flow s a b = some s' ∧ ∀ H', Kp L H H' → At K A.toCl L H' s' → Q .non H'
def spRroot (K : PySem.W.Frag) (A : Adr) : Sp := fun vs H Q _ => ∃ (L : Lay) (s : S) (r q : Nat), vs = [.ref L.rw, .int (r : Nat)] ∧ At K A.toCl L H s ∧ root s.links 10 r = some q ∧ Q (.int (q : Nat)) H
def spRsame (K : PySem.W.Frag) (A : Adr) : Sp := fun vs H Q _ => ∃ (L : Lay) (s s' : S) (a b : Nat), vs = [.ref L.rw, .int (a : Nat), .int (b : Nat)] ∧ At K A.toCl L H s ∧ same s a b = some s' ∧ ∀ H', Kp L H H' → At K A.toCl L H' s' → Q .non H'
section
variable {P : Program} {w : World} {K : PySem.W.Frag} {mg : Str → Option Value} {base : Heap} {A : Adr}
theorem scRi : FnScope ["self"] ["self"] (defScope sRinit) := ⟨rfl, rfl, rfl, by decide +kernel, rfl, by decide +kernel, by decide +kernel⟩
theorem scRf : FnScope ["self"] ["self"] (defScope sRfresh) := ⟨rfl, rfl, rfl, by decide +kernel, rfl, by decide +kernel, by decide +kernel⟩
theorem scRr : FnScope ["self", "row"] ["self", "row"] (defScope sRroot) := ⟨rfl, rfl, rfl, by decide +kernel, rfl, by decide +kernel, by decide +kernel⟩
theorem scRw : FnScope ["self", "source", "target", "without"] ["self", "source", "target", "without"] (defScope sRflow) := ⟨rfl, rfl, rfl, by decide +kernel, rfl, by decide +kernel, by decide +kernel⟩
theorem scRs : FnScope ["self", "one", "other"] ["self", "one", "other"] (defScope sRsame) := ⟨rfl, rfl, rfl, by decide +kernel, rfl, by decide +kernel, by decide +kernel⟩
theorem tyL {H : Hp} {p : Addr} {xs : List V} (h : H p = some (.lst xs)) : tyV K "list" (.ref p) H := Or.inl ⟨rfl, _, Or.inl (Or.inl h)⟩
theorem small9 {n : Nat} (h : n < 1000) : n < sizeLine := small1000 (Nat.le_of_lt h)
theorem freshR_some {s s' : S} (h : freshR s = some s') : s.links.length < 1000 ∧ s' = { s with links := s.links ++ [s.links.length] } := by
  unfold freshR at h
  split at h
  · rename_i hl
    exact ⟨hl, (Option.some.inj h).symm⟩
  · cases h
theorem flow_some {s s' : S} {a b : Nat} (h : flow s a b = some s') : s.flows.length < 1000 ∧ s' = { s with flows := s.flows ++ [(a, b)] } := by
  unfold flow at h
  split at h
  · rename_i hl
    exact ⟨hl, (Option.some.inj h).symm⟩
  · cases h
theorem ok_Rfresh (T : Txt P w K mg A) : FnOk P w K mg base CX0 1 A.rF.a A.rF.d ["self"] (spRfresh K A) := by
  refine T.tR.F.F.ok scRf (fun vs H Q E h => ?_) (fun cdv A0 outer s0 H vs Q E hr h => ?_)
  · obtain ⟨L, s, s', rfl, _⟩ := h
    rfl
  · obtain ⟨L, s, s', rfl, hA, hs, k⟩ := h
    obtain ⟨hlt, rfl⟩ := freshR_some hs
    obtain ⟨nv, hn, hnl, _⟩ := hA.names
    have n := hA.ne
    -- self.links.append(len(self.links)); self.names.append([]); return len(self.links) - 1
    refine ⟨_, pss_cons (ps_expr (pe_bm PySem.F.plainAttrs_list PySem.F.slot_list_append PySem.F.type_list_append mt_append (pe_fld (pv 0) rfl) (pa_cons (pe_callB call_len_seq (by rfl) T.tB.len PySem.boot_len (pa_cons (pe_fld (pv 0) rfl) pa_nil)) pa_nil)))
      (pss_cons (ps_expr (pe_bm PySem.F.plainAttrs_list PySem.F.slot_list_append PySem.F.type_list_append mt_append (pe_fld (pv 0) rfl) (pa_cons (pe_lst pa_nil) pa_nil)))
      (pss_one (ps_ret (pe_op op_sub (pe_callB call_len_seq (by rfl) T.tB.len PySem.boot_len (pa_cons (pe_fld (pv 0) rfl) pa_nil)) pe_int)))), ?_⟩
    refine ⟨_, rfl, _, _, _, _, _, rfl, hA.oR, T.tR.cl, T.tR.nl, fRl _ _ _, tyL hA.links, _, rfl, _, _, _, _, _, rfl, hA.oR, T.tR.cl, T.tR.nl, fRl _ _ _, _, _, rfl, .inl (SqL.of hA.links), _, _, _, rfl, rfl, hA.links, by rw [vN_length]; exact small9 hlt, ?_⟩
    rw [vN_length, vN_snoc]
    have a1 : At K A.toCl L (upd H L.ll (.lst (vN s.links))) s := by
      have z := hA.setLinks s.links rfl
      exact z
    have iR : ∀ xs, (upd H L.ll (.lst xs)) L.rw = H L.rw := fun xs => upd_ne (by
      intro z
      have y := hA.oR
      rw [z, hA.links] at y
      cases y)
    refine ⟨_, rfl, _, _, _, _, _, rfl, (iR _).trans hA.oR, T.tR.cl, T.tR.nn, fRn _ _ _, tyL ((upd_ne n.ln.symm).trans hn), (by show 0 ≤ sizeLine; decide), fun p hp => ?_⟩
    have hp' : H p = none := by
      by_cases z : p = L.ll
      · rw [z, upd_same] at hp; cases hp
      · rw [upd_ne z] at hp; exact hp
    have pf := hA.none_foot hp'
    refine ⟨L.ln, nv, .ref p, rfl, rfl, (upd_ne (nin pf L.inN).symm).trans ((upd_ne n.ln.symm).trans hn), by rw [hnl]; exact small9 hlt, ?_⟩
    obtain ⟨a3, k3⟩ := hA.pushR hn hp'
    refine ⟨_, rfl, _, _, _, _, _, rfl, a3.oR, T.tR.cl, T.tR.nl, fRl _ _ _, _, _, rfl, .inl (SqL.of a3.links), _, _, rfl, rfl, ?_⟩
    have e : V.int (((vN (s.links ++ [s.links.length])).length : Nat) - 1 : Int) = V.int (s.links.length : Nat) := by
      rw [vN_length, List.length_append]
      simp
    show Q (V.int (((vN (s.links ++ [s.links.length])).length : Nat) - 1 : Int)) _
    rw [e]
    exact k _ k3 a3
theorem ok_Rflow (T : Txt P w K mg A) : FnOk P w K mg base CX0 1 A.rW.a A.rW.d ["self", "source", "target", "without"] (spRflow K A) := by
  refine T.tR.W.F.ok scRw (fun vs H Q E h => ?_) (fun cdv A0 outer s0 H vs Q E hr h => ?_)
  · obtain ⟨L, s, s', a, b, w, ys, rfl, _⟩ := h
    rfl
  · obtain ⟨L, s, s', a, b, w, ys, rfl, hw, hA, hs, k⟩ := h
    obtain ⟨hlt, rfl⟩ := flow_some hs
    obtain ⟨fv, hf, hfl⟩ := hA.flows
    -- self.flows.append((source, target, list(without)))
    refine ⟨_, pss_one (ps_expr (pe_bm PySem.F.plainAttrs_list PySem.F.slot_list_append PySem.F.type_list_append mt_append (pe_fld (pv 0) rfl) (pa_cons (pe_tup (pa_cons (pv 1) (pa_cons (pv 2) (pa_cons (pe_callTy call_list_of (by rfl) T.tB.lst (by decide +kernel) (pa_cons (pv 3) pa_nil)) pa_nil)))) pa_nil))), ?_⟩
    refine ⟨_, rfl, _, _, _, _, _, rfl, hA.oR, T.tR.cl, T.tR.nf, fRf _ _ _, tyL hf, _, rfl, _, rfl, _, rfl, _, _, rfl, .inl hw, fun l hl => ?_⟩
    refine ⟨(by show 3 ≤ sizeLine; decide), fun t ht => ?_⟩
    have s1 := same_new hl (.lst ys)
    have s2 := same_new ht (.tup [.int (a : Nat), .int (b : Nat), .ref l])
    have A2 := (hA.same s1).same s2
    have h2 : (upd (upd H l (.lst ys)) t (.tup [.int (a : Nat), .int (b : Nat), .ref l])) L.lf = some (.lst fv) := s2 _ _ (s1 _ _ hf)
    refine ⟨L.lf, fv, .ref t, rfl, rfl, h2, by rw [hfl.length]; exact small9 hlt, ?_⟩
    obtain ⟨fv', hf', hfl'⟩ := A2.flows
    rw [h2] at hf'
    cases hf'
    exact k _ ((Kp.of (s1.trans s2)).trans (A2.kp L.inF _)) (A2.setFlows (hfl'.snoc ⟨t, .ref l, rfl, Tp.of upd_same⟩))
theorem ok_Rinit (T : Txt P w K mg A) : FnOk P w K mg base CX0 1 A.rI.a A.rI.d ["self"] (spRinit A) := by
  refine T.tR.I.F.ok scRi (fun vs H Q E h => ?_) (fun cdv A0 outer s0 H vs Q E hr h => ?_)
  · obtain ⟨p, dx, rfl, _⟩ := h
    rfl
  · obtain ⟨p, dx, rfl, hp, k⟩ := h
    refine ⟨_, pss_cons (ps_fld (pv 0) (pe_lst pa_nil) rfl) (pss_cons (ps_fld (pv 0) (pe_lst pa_nil) rfl) (pss_one (ps_fld (pv 0) (pe_lst pa_nil) rfl))), ?_⟩
    refine ⟨(by show 0 ≤ sizeLine; decide), fun a ha => ?_⟩
    have pa : p ≠ a := ne_of_none hp ha
    refine ⟨_, rfl, p, A.cR, dx, [], rfl, (by rw [upd_ne pa]; exact hp), T.tR.cl, T.tR.nl, (by show 0 < 1000; decide), ?_⟩
    refine ⟨(by show 0 ≤ sizeLine; decide), fun b hb => ?_⟩
    have bp : b ≠ p := fun z => by rw [z, upd_same] at hb; cases hb
    rw [upd_ne bp] at hb
    have ba : b ≠ a := fun z => by rw [z, upd_same] at hb; cases hb
    rw [upd_ne ba] at hb
    refine ⟨_, rfl, p, A.cR, dx, _, rfl, (by rw [upd_ne bp.symm]; exact upd_same), T.tR.cl, T.tR.nn, (by show 1 < 1000; decide), ?_⟩
    refine ⟨(by show 0 ≤ sizeLine; decide), fun c hc => ?_⟩
    have cp : c ≠ p := fun z => by rw [z, upd_same] at hc; cases hc
    rw [upd_ne cp] at hc
    have cb : c ≠ b := fun z => by rw [z, upd_same] at hc; cases hc
    rw [upd_ne cb, upd_ne cp] at hc
    have ca : c ≠ a := fun z => by rw [z, upd_same] at hc; cases hc
    rw [upd_ne ca] at hc
    refine ⟨_, rfl, p, A.cR, dx, _, rfl, (by rw [upd_ne cp.symm]; exact upd_same), T.tR.cl, T.tR.nf, ?_, ?_⟩
    · have z1 := length_putF ("names" : Str) (V.ref b) (putF ("links" : Str) (V.ref a) [])
      have z2 := length_putF ("links" : Str) (V.ref a) []
      have z3 : ([] : List (Str × V)).length = 0 := rfl
      omega
    · have e1 : putF ("flows" : Str) (V.ref c) (putF ("names" : Str) (V.ref b) (putF ("links" : Str) (V.ref a) [])) = ([("links", V.ref a), ("names", V.ref b), ("flows", V.ref c)] : List (Str × V)) := by
        have h1 : ¬ (("links" : Str) = "names") := by decide +kernel
        have h2 : ¬ (("links" : Str) = "flows") := by decide +kernel
        have h3 : ¬ (("names" : Str) = "flows") := by decide +kernel
        simp [putF, h1, h2, h3]
      refine k a b c _ ha hb hc ba.symm ca.symm cb.symm ?_ ?_ ?_ ?_ ?_
      · rw [upd_same, e1]
      · rw [upd_ne pa.symm, upd_ne ca.symm, upd_ne pa.symm, upd_ne ba.symm, upd_ne pa.symm, upd_same]
      · rw [upd_ne bp, upd_ne cb.symm, upd_ne bp, upd_same]
      · rw [upd_ne cp, upd_same]
      · intro d o e hd
        rw [upd_ne hd, upd_ne (ne_of_none e hc), upd_ne hd, upd_ne (ne_of_none e hb), upd_ne hd, upd_ne (ne_of_none e ha)]
        exact e
theorem atI_vN {l : List Nat} {i n : Nat} (h : l[i]? = some n) : atI (vN l) ((i : Nat) : Int) = some (V.int (n : Nat)) := atI_nat (vN_get h)
theorem ok_Rroot (T : Txt P w K mg A) : FnOk P w K mg base CX0 1 A.rT.a A.rT.d ["self", "row"] (spRroot K A) := by
  refine T.tR.T.F.ok scRr (fun vs H Q E h => ?_) (fun cdv A0 outer s0 H vs Q E hr h => ?_)
  · obtain ⟨L, s, r, q, rfl, _⟩ := h
    rfl
  · obtain ⟨L, s, r, q, rfl, hA, hq, k⟩ := h
    refine ⟨_, pss_cons (ps_while PassesOwn.never (pt_cmpR op_ne (pe_ix ix_list (pe_fld (pv 0) rfl) (pv 1) (fun _ _ => rfl)) (pv 1) (nomark _))
      (pss_one (ps_set (i := 1) scRr.nd rfl (Or.inl rfl) (pe_ix ix_list (pe_fld (pv 0) rfl) (pv 1) (fun _ _ => rfl))))) (pss_one (ps_ret (pv 1))), ?_⟩
    refine ⟨fun m σ H' => H' = H ∧ ∃ r' : Nat, σ = [some (.ref L.rw), some (.int (r' : Nat))] ∧ root s.links m r' = some q, ⟨10, rfl, r, rfl, hq⟩, ?_⟩
    rintro m σ H' ⟨rfl, r', rfl, hm⟩
    cases m with
    | zero => cases hm
    | succ m =>
      simp only [root] at hm
      cases hl : s.links[r']? with
      | none => rw [hl] at hm; cases hm
      | some x =>
        rw [hl] at hm
        dsimp only at hm
        refine ⟨_, rfl, _, _, _, _, _, rfl, hA.oR, T.tR.cl, T.tR.nl, fRl _ _ _, _, rfl, L.ll, _, _, _, rfl, rfl, SqL.of hA.links, atI_vN hl, _, rfl, rfl, _, rfl, ?_⟩
        by_cases c : x = r'
        · have e1 : (!decide (V.int (x : Nat) = V.int (r' : Nat))) = false := by rw [c, decide_eq_true rfl]; rfl
          rw [e1]
          refine iteF ?_
          rw [if_pos c] at hm
          cases hm
          exact ⟨_, rfl, k⟩
        · have e1 : (!decide (V.int (x : Nat) = V.int (r' : Nat))) = true := by
            rw [decide_eq_false (fun z => c (by have z1 := V.int.inj z; omega))]; rfl
          rw [e1]
          refine iteT ?_
          rw [if_neg c] at hm
          exact ⟨fun σ' H'' => H'' = H' ∧ σ' = [some (.ref L.rw), some (.int (x : Nat))], fun σ' H'' ⟨e2, e3⟩ => ⟨m, Nat.lt_succ_self m, e2, x, e3, hm⟩,
            _, rfl, _, _, _, _, _, rfl, hA.oR, T.tR.cl, T.tR.nl, fRl _ _ _, _, rfl, L.ll, _, _, _, rfl, rfl, SqL.of hA.links, atI_vN hl, rfl, rfl⟩
theorem root_lt {links : List Nat} : ∀ {n r q : Nat}, root links n r = some q → q < links.length
  | 0, _, _, h => by cases h
  | n + 1, r, q, h => by
    simp only [root] at h
    cases hl : links[r]? with
    | none => rw [hl] at h; cases h
    | some x =>
      rw [hl] at h
      dsimp only at h
      by_cases c : x = r
      · rw [if_pos c] at h
        cases h
        exact (List.getElem?_eq_some_iff.mp hl).1
      · rw [if_neg c] at h
        exact root_lt h
theorem ixN_nat {n i : Nat} (h : i < n) : ixN n ((i : Nat) : Int) = some i := by
  unfold ixN
  rw [if_pos (by omega), if_pos (by omega)]
  simp
theorem ok_Rsame (T : Txt P w K mg A) : FnOk P w K mg base CX0 2 A.rS.a A.rS.d ["self", "one", "other"] (spRsame K A) := by
  refine T.tR.S.F.ok scRs (fun vs H Q E h => ?_) (fun cdv A0 outer s0 H vs Q E hr h => ?_)
  · obtain ⟨L, s, s', a, b, rfl, _⟩ := h
    rfl
  · obtain ⟨L, s, s', a, b, rfl, hA, hs, k⟩ := h
    unfold same at hs
    obtain ⟨x, hx, hs⟩ := Option.bind_eq_some_iff.mp hs
    obtain ⟨y, hy, hs⟩ := Option.bind_eq_some_iff.mp hs
    cases hs
    have G := ok_Rroot (base := base) T
    refine ⟨_, pss_one (ps_asg (pe_meth (pv 0) T.tR.cl T.tR.T.m G hr T.tR.T.b .nil pass0 (pa_cons (pv 2) pa_nil)) (pg_sub (pe_fld (pv 0) rfl) (pe_meth (pv 0) T.tR.cl T.tR.T.m G hr T.tR.T.b .nil pass0 (pa_cons (pv 1) pa_nil)) set_list)), ?_⟩
    refine ⟨_, rfl, _, _, _, rfl, hA.oR, fR0 _ _ _ (by decide +kernel), _, rfl, L, s, b, y, rfl, hA, hy, ?_⟩
    refine ⟨_, rfl, _, _, _, _, _, rfl, hA.oR, T.tR.cl, T.tR.nl, fRl _ _ _, _, rfl, _, _, _, rfl, hA.oR, fR0 _ _ _ (by decide +kernel), _, rfl, L, s, a, x, rfl, hA, hx, ?_⟩
    refine ⟨L.ll, _, _, x, rfl, rfl, hA.links, by rw [vN_length]; exact ixN_nat (root_lt hx), ?_⟩
    rw [vN_set]
    exact k _ (hA.kp L.inL _) (hA.setLinks _ (by simp))
end
end K9
/-! The class Kinds. -/
namespace K9
open PySem L2
theorem at0 {x : V} {r : List V} : atI (x :: r) 0 = some x := atI_nat (j := 0) rfl
theorem at1 {x y : V} {r : List V} : atI (x :: y :: r) 1 = some y := atI_nat (j := 1) rfl
theorem at2 {x y z : V} {r : List V} : atI (x :: y :: z :: r) 2 = some z := atI_nat (j := 2) rfl
theorem at3 {x y z u : V} {r : List V} : atI (x :: y :: z :: u :: r) 3 = some u := atI_nat (j := 3) rfl
/-- a type's head is asked -/
theorem hdec {t : Ty} {x : Str} {n : Nat} (h : x = hs n) (hn : n < 6) : decide (V.str t.head = V.str x) = decide (t.hc = n) := by
  subst h
  obtain ⟨h1, h2⟩ := Ty.head_hs t
  rw [h1]
  by_cases e : t.hc = n
  · rw [e, decide_eq_true rfl, decide_eq_true rfl]
  · rw [decide_eq_false e, decide_eq_false (fun z => hs_ne _ h2 _ hn e (V.str.inj z))]
theorem hvar : ("var" : Str) = hs 3 := rfl
theorem hpair : ("pair" : Str) = hs 4 := rfl
theorem hfun : ("fun" : Str) = hs 5 := rfl
/-! promises -/
def spKinit (A : Adr) : Sp := fun vs H Q _ => ∃ (p dx : Addr), vs = [.ref p] ∧ H p = some (.ins A.cK dx []) ∧ ∀ (r dR a b c m : Addr) (H' : Hp), H r = none → H a = none → H b = none → H c = none → H m = none → a ≠ b → a ≠ c → b ≠ c → m ≠ a → m ≠ b → m ≠ c →
  H' p = some (.ins A.cK dx [("rows", .ref r), ("meanings", .ref m)]) → H' r = some (.ins A.cR dR [("links", .ref a), ("names", .ref b), ("flows", .ref c)]) → H' a = some (.lst []) → H' b = some (.lst []) → H' c = some (.lst []) → H' m = some (.lst []) →
  (∀ d o, H d = some o → d ≠ p → H' d = some o) → Q .non H'
def spKfresh (K : PySem.W.Frag) (A : Adr) : Sp := fun vs H Q _ => ∃ (L : Lay) (s s' : S), vs = [.ref L.kd] ∧ At K A.toCl L H s ∧ fresh s = some s' ∧ ∀ H' v, Kp L H H' → At K A.toCl L H' s' → TyAt K H' (.var s.ms.length) v → Q v H'
def spKseen (K : PySem.W.Frag) (A : Adr) : Sp := fun vs H Q _ => ∃ (L : Lay) (s : S) (t t' : Ty) (v : V), vs = [.ref L.kd, v] ∧ At K A.toCl L H s ∧ TyAt K H t v ∧ hd s.ms 30 t = some t' ∧ ∀ v', TyAt K H t' v' → Q v' H
/-- the types directly inside -/
def Ty.parts : Ty → List Ty
  | .pair a b => [a, b] | .fn a _ b => [a, b] | _ => []
def spKinner (K : PySem.W.Frag) : Sp := fun vs H Q _ => ∃ (k : V) (t : Ty) (v : V), vs = [k, v] ∧ TyAt K H t v ∧ ∀ p ws, H p = none → All2 (TyAt K H) t.parts ws → Q (.ref p) (upd H p (.lst ws))
def spKcontains (K : PySem.W.Frag) (A : Adr) (n : Nat) : Sp := fun vs H Q _ => ∃ (L : Lay) (s : S) (t : Ty) (i : Nat) (v u : V), vs = [.ref L.kd, v, u] ∧ At K A.toCl L H s ∧ TyAt K H t v ∧ TyAt K H (.var i) u ∧ noocc s.ms i n t = true ∧ ∀ H', Same H H' → Q (.bl false) H'
def left (room k : Nat) : Int := if k ≤ room then (room : Int) - k else -1
def spKsize (K : PySem.W.Frag) (A : Adr) (n : Nat) : Sp := fun vs H Q _ => ∃ (L : Lay) (s : S) (t : Ty) (k room : Nat) (v : V), vs = [.ref L.kd, v, .int (room : Nat)] ∧ At K A.toCl L H s ∧ TyAt K H t v ∧ sz s.ms n t = some k ∧ ∀ H', Same H H' → Q (.int (left room k)) H'
section
variable {P : Program} {w : World} {K : PySem.W.Frag} {mg : Str → Option Value} {base : Heap} {A : Adr}
theorem scKi : FnScope ["self"] ["self"] (defScope sKinit) := ⟨rfl, rfl, rfl, by decide +kernel, rfl, by decide +kernel, by decide +kernel⟩
theorem scKf : FnScope ["self"] ["self"] (defScope sKfresh) := ⟨rfl, rfl, rfl, by decide +kernel, rfl, by decide +kernel, by decide +kernel⟩
theorem scKs : FnScope ["self", "known"] ["self", "known"] (defScope sKseen) := ⟨rfl, rfl, rfl, by decide +kernel, rfl, by decide +kernel, by decide +kernel⟩
theorem scKn : FnScope ["self", "known"] ["self", "known"] (defScope sKinner) := ⟨rfl, rfl, rfl, by decide +kernel, rfl, by decide +kernel, by decide +kernel⟩
theorem scKc : FnScope ["self", "known", "variable", "part"] ["self", "known", "variable"] (defScope sKcontains) := ⟨rfl, rfl, rfl, by decide +kernel, rfl, by decide +kernel, by decide +kernel⟩
theorem scKz : FnScope ["self", "known", "room", "part"] ["self", "known", "room"] (defScope sKsize) := ⟨rfl, rfl, rfl, by decide +kernel, rfl, by decide +kernel, by decide +kernel⟩
theorem fresh_some {s s' : S} (h : fresh s = some s') : s.ms.length < 1000 ∧ s' = { s with ms := s.ms ++ [none] } := by
  unfold fresh at h
  split at h
  · rename_i hl
    exact ⟨hl, (Option.some.inj h).symm⟩
  · cases h
theorem ok_Kfresh (T : Txt P w K mg A) : FnOk P w K mg base CX0 1 A.kF.a A.kF.d ["self"] (spKfresh K A) := by
  refine T.tK.F.F.ok scKf (fun vs H Q E h => ?_) (fun cdv A0 outer s0 H vs Q E hr h => ?_)
  · obtain ⟨L, s, s', rfl, _⟩ := h
    rfl
  · obtain ⟨L, s, s', rfl, hA, hs, k⟩ := h
    obtain ⟨hlt, rfl⟩ := fresh_some hs
    obtain ⟨mv, hm, hml⟩ := hA.ms
    -- self.meanings.append(None); return ("var", len(self.meanings) - 1)
    refine ⟨_, pss_cons (ps_expr (pe_bm PySem.F.plainAttrs_list PySem.F.slot_list_append PySem.F.type_list_append mt_append (pe_fld (pv 0) rfl) (pa_cons pe_non pa_nil)))
      (pss_one (ps_ret (pe_tup (pa_cons pe_str (pa_cons (pe_op op_sub (pe_callB call_len_seq (by rfl) T.tB.len PySem.boot_len (pa_cons (pe_fld (pv 0) rfl) pa_nil)) pe_int) pa_nil))))), ?_⟩
    refine ⟨_, rfl, _, _, _, _, _, rfl, hA.oK, T.tK.cl, T.tK.nm, fKm _ _, tyL hm, _, _, _, rfl, rfl, hm, by rw [hml.length]; exact small9 hlt, ?_⟩
    have a1 := hA.setMs (hml.snoc (a := none) (b := V.non) rfl)
    have k1 := hA.kp L.inM (.lst (mv ++ [.non]))
    have hm1 : (upd H L.lm (.lst (mv ++ [.non]))) L.lm = some (.lst (mv ++ [.non])) := upd_same
    refine ⟨_, rfl, _, _, _, _, _, rfl, a1.oK, T.tK.cl, T.tK.nm, fKm _ _, _, _, rfl, .inl (SqL.of hm1), _, _, rfl, rfl, (by show 2 ≤ sizeLine; decide), fun p hp => ?_⟩
    have e : ((((mv ++ [V.non]).length : Nat) : Int) - 1) = ((s.ms.length : Nat) : Int) := by
      rw [List.length_append, hml.length]
      simp
    show Q (V.ref p) (upd (upd H L.lm (.lst (mv ++ [.non]))) p (.tup [.str "var", .int ((((mv ++ [V.non]).length : Nat) : Int) - 1)]))
    rw [e]
    exact k _ _ (k1.trans (Kp.of (same_new hp _))) (a1.same (same_new hp _)) ⟨p, rfl, Tp.of upd_same⟩
theorem ok_Kseen (T : Txt P w K mg A) : FnOk P w K mg base CX0 1 A.kS.a A.kS.d ["self", "known"] (spKseen K A) := by
  refine T.tK.S.F.ok scKs (fun vs H Q E h => ?_) (fun cdv A0 outer s0 H vs Q E hr h => ?_)
  · obtain ⟨L, s, t, t', v, rfl, _⟩ := h
    rfl
  · obtain ⟨L, s, t, t', v, rfl, hA, hv, ht, k⟩ := h
    obtain ⟨mv, hm, hml⟩ := hA.ms
    refine ⟨_, pss_cons (ps_while PassesOwn.never (PW.pt (pw_and (pt_cmpR op_eq (pe_ix ix_tup (pv 1) pe_int (fun _ _ => rfl)) pe_str (nomark _)) (pw_and1 (pt_cmp (pc_notN (pe_ix ix_list (pe_fld (pv 0) rfl) (pe_ix ix_tup (pv 1) pe_int (fun _ _ => rfl)) (fun _ _ => rfl)))))))
      (pss_one (ps_set (i := 1) scKs.nd rfl (Or.inl rfl) (pe_ix ix_list (pe_fld (pv 0) rfl) (pe_ix ix_tup (pv 1) pe_int (fun _ _ => rfl)) (fun _ _ => rfl))))) (pss_one (ps_ret (pv 1))), ?_⟩
    refine ⟨fun m σ H' => H' = H ∧ ∃ t v, σ = [some (.ref L.kd), some v] ∧ TyAt K H t v ∧ hd s.ms m t = some t', ⟨30, rfl, t, v, rfl, hv, ht⟩, ?_⟩
    rintro m σ H' ⟨rfl, t, v, rfl, hv, ht⟩
    cases m with
    | zero => cases ht
    | succ m =>
      by_cases hc : t.hc = 3
      · cases t with
        | var i =>
          obtain ⟨a, rfl, ha⟩ := hv
          simp only [hd] at ht
          cases hl : s.ms[i]? with
          | none => rw [hl] at ht; cases ht
          | some o =>
            obtain ⟨u, hu, ho⟩ := hml.get hl
            rw [hl] at ht
            refine ⟨_, rfl, a, _, _, _, rfl, rfl, ha.sq, at0, rfl, _, rfl, ?_⟩
            rw [show decide (V.str "var" = V.str "var") = true from decide_eq_true rfl]
            refine iteT ⟨_, rfl, _, _, _, _, _, rfl, hA.oK, T.tK.cl, T.tK.nm, fKm _ _, _, rfl, a, _, _, _, rfl, rfl, ha.sq, at1, L.lm, _, _, _, rfl, rfl, SqL.of hm, atI_nat hu, _, rfl, ?_⟩
            cases o with
            | none =>
              dsimp only at ht
              cases ht
              have e : u = .non := ho
              rw [e, show (!decide (V.non = V.non)) = false by rw [decide_eq_true rfl]; rfl]
              exact iteF ⟨_, rfl, k _ ⟨a, rfl, ha⟩⟩
            | some t2 =>
              dsimp only at ht
              have ho' : TyAt K H' t2 u := ho
              obtain ⟨b, xs, e, hb⟩ := ho'.tup
              rw [show (!decide (u = V.non)) = true by rw [e, decide_eq_false (by intro z; cases z)]; rfl]
              exact iteT ⟨fun σ' H'' => H'' = H' ∧ σ' = [some (.ref L.kd), some u], fun σ' H'' ⟨e2, e3⟩ => ⟨m, Nat.lt_succ_self m, e2, t2, u, e3, ho', ht⟩,
                _, rfl, _, _, _, _, _, rfl, hA.oK, T.tK.cl, T.tK.nm, fKm _ _, _, rfl, a, _, _, _, rfl, rfl, ha.sq, at1, L.lm, _, _, _, rfl, rfl, SqL.of hm, atI_nat hu, rfl, rfl⟩
        | _ => simp [Ty.hc] at hc
      · obtain ⟨a, xs, e, ha⟩ := hv.tup
        subst e
        refine ⟨_, rfl, a, _, _, _, rfl, rfl, ha.sq, at0, rfl, _, rfl, ?_⟩
        rw [hdec hvar (by decide), decide_eq_false hc]
        have e : t = t' := by
          cases t <;> first | (simp [Ty.hc] at hc; done) | exact Option.some.inj ht
        refine iteF (iteF ⟨_, rfl, ?_⟩)
        subst e
        exact k _ hv
theorem ok_Kinner (T : Txt P w K mg A) : FnOk P w K mg base CX0 1 A.kN.a A.kN.d ["self", "known"] (spKinner K) := by
  refine T.tK.N.F.ok scKn (fun vs H Q E h => ?_) (fun cdv A0 outer s0 H vs Q E hr h => ?_)
  · obtain ⟨k, t, v, rfl, _⟩ := h
    rfl
  · obtain ⟨self, t, v, rfl, hv, k⟩ := h
    refine ⟨_, pss_cons (ps_if (pt_cmpR op_eq (pe_ix ix_tup (pv 1) pe_int (fun _ _ => rfl)) pe_str (nomark _)) (pss_one (ps_ret (pe_lst (pa_cons (pe_ix ix_tup (pv 1) pe_int (fun _ _ => rfl)) (pa_cons (pe_ix ix_tup (pv 1) pe_int (fun _ _ => rfl)) pa_nil))))) pss_nil)
      (pss_cons (ps_if (pt_cmpR op_eq (pe_ix ix_tup (pv 1) pe_int (fun _ _ => rfl)) pe_str (nomark _)) (pss_one (ps_ret (pe_lst (pa_cons (pe_ix ix_tup (pv 1) pe_int (fun _ _ => rfl)) (pa_cons (pe_ix ix_tup (pv 1) pe_int (fun _ _ => rfl)) pa_nil))))) pss_nil)
      (pss_one (ps_ret (pe_lst pa_nil)))), ?_⟩
    obtain ⟨a, xs, e, ha⟩ := hv.tup
    subst e
    refine ⟨_, rfl, a, _, _, _, rfl, rfl, ha.sq, at0, rfl, _, rfl, ?_⟩
    rw [hdec hfun (by decide)]
    by_cases h5 : t.hc = 5
    · rw [decide_eq_true h5]
      refine iteT ?_
      cases t with
      | fn x r y =>
        obtain ⟨b, vx, vy, e, hb, hx, hy⟩ := hv
        cases e
        exact ⟨_, rfl, a, _, _, _, rfl, rfl, hb.sq, at1, _, rfl, a, _, _, _, rfl, rfl, hb.sq, at3, (by show 2 ≤ sizeLine; decide), fun p hp => k p _ hp (.cons hx (.cons hy .nil))⟩
      | _ => simp [Ty.hc] at h5
    · rw [decide_eq_false h5]
      refine iteF ⟨_, rfl, a, _, _, _, rfl, rfl, ha.sq, at0, rfl, _, rfl, ?_⟩
      rw [hdec hpair (by decide)]
      by_cases h4 : t.hc = 4
      · rw [decide_eq_true h4]
        refine iteT ?_
        cases t with
        | pair x y =>
          obtain ⟨b, vx, vy, e, hb, hx, hy⟩ := hv
          cases e
          exact ⟨_, rfl, a, _, _, _, rfl, rfl, hb.sq, at1, _, rfl, a, _, _, _, rfl, rfl, hb.sq, at2, (by show 2 ≤ sizeLine; decide), fun p hp => k p _ hp (.cons hx (.cons hy .nil))⟩
        | _ => simp [Ty.hc] at h4
      · rw [decide_eq_false h4]
        refine iteF ⟨(by show 0 ≤ sizeLine; decide), fun p hp => k p _ hp ?_⟩
        have e : t.parts = [] := by cases t <;> first | rfl | (simp [Ty.hc] at h4 h5; done)
        rw [e]
        exact .nil
theorem noocc_succ {ms : Ms} {i n : Nat} {t : Ty} (h : noocc ms i (n + 1) t = true) : ∃ t', hd ms 30 t = some t' ∧ t' ≠ .var i ∧ t'.dep ≤ 30 ∧ ∀ p ∈ t'.parts, noocc ms i n p = true := by
  simp only [noocc] at h
  cases ht : hd ms 30 t with
  | none => rw [ht] at h; cases h
  | some t' =>
    rw [ht] at h
    refine ⟨t', rfl, ?_⟩
    cases t' with
    | var j =>
      refine ⟨fun z => ?_, by simp [Ty.dep], fun p hp => by cases hp⟩
      cases z
      simp at h
    | pair x y =>
      simp only [Bool.and_eq_true, decide_eq_true_eq] at h
      refine ⟨fun z => (by cases z), h.1, fun p hp => ?_⟩
      rcases List.mem_cons.mp hp with rfl | hp
      · exact h.2.1
      · rw [List.mem_singleton.mp hp]; exact h.2.2
    | fn x r y =>
      simp only [Bool.and_eq_true, decide_eq_true_eq] at h
      refine ⟨fun z => (by cases z), h.1, fun p hp => ?_⟩
      rcases List.mem_cons.mp hp with rfl | hp
      · exact h.2.1
      · rw [List.mem_singleton.mp hp]; exact h.2.2
    | _ => exact ⟨fun z => (by cases z), by simp [Ty.dep], fun p hp => by cases hp⟩
theorem ok_Kcontains (T : Txt P w K mg A) : ∀ n : Nat, FnOk P w K mg base CX0 (n + 1) A.kC.a A.kC.d ["self", "known", "variable"] (spKcontains K A n)
  | 0 => by
    have no : ∀ vs H Q E, ¬ spKcontains K A 0 vs H Q E := fun vs H Q E ⟨L, s, t, i, v, u, _, _, _, _, h, _⟩ => by simp [noocc] at h
    exact ⟨fun vs H Q E h => absurd h (no vs H Q E), fun A outer s H args us vs Q E _ _ _ _ h => absurd h (no vs H Q E)⟩
  | n + 1 => by
    have IH := ok_Kcontains T n
    have GS := (ok_Kseen (base := base) T).mono (show 1 ≤ n + 1 by omega)
    have GN := (ok_Kinner (base := base) T).mono (show 1 ≤ n + 1 by omega)
    refine T.tK.C.F.ok scKc (fun vs H Q E h => ?_) (fun cdv A0 outer s0 H vs Q E hr h => ?_)
    · obtain ⟨L, s, t, i, v, u, rfl, _⟩ := h
      rfl
    · obtain ⟨L, s, t, i, v, u, rfl, hA, hv, hu, ho, k⟩ := h
      obtain ⟨t', ht, hne, hdp, hps⟩ := noocc_succ ho
      refine ⟨_, pss_cons (ps_set (i := 1) scKc.nd rfl (Or.inl rfl) (pe_meth (pv 0) T.tK.cl T.tK.S.m GS hr T.tK.S.b .nil pass0 (pa_cons (pv 1) pa_nil)))
        (pss_cons (ps_if (pt_cmpR (op_eqD hr.units) (pv 1) (pv 2) (nomark _)) (pss_one (ps_ret pe_bl)) pss_nil)
        (pss_cons (ps_for PassesOwn.never rfl (pi_list (pe_meth (pv 0) T.tK.cl T.tK.N.m GN hr T.tK.N.b .nil pass0 (pa_cons (pv 1) pa_nil))) (pg_name (i := 3) scKc.nd rfl (Or.inl rfl))
          (pss_one (ps_if (pt_val (pe_meth (pv 0) T.tK.cl T.tK.C.m IH hr T.tK.C.b .nil pass0 (pa_cons (pv 3) (pa_cons (pv 2) pa_nil)))) (pss_one (ps_ret pe_bl)) pss_nil)))
        (pss_one (ps_ret pe_bl)))), ?_⟩
      refine ⟨_, rfl, _, _, _, rfl, hA.oK, fK0 _ _ (by decide +kernel), _, rfl, L, s, t, t', v, rfl, hA, hv, ht, fun v' hv' => ?_⟩
      refine ⟨_, rfl, _, rfl, t'.data, (Ty.var i).data, hv'.dp, hu.dp, Ty.shaped hdp, Ty.shaped (by simp [Ty.dep]), _, rfl, ?_⟩
      rw [eqv_data, decide_eq_false hne]
      refine iteF ⟨_, rfl, _, _, _, rfl, hA.oK, fK0 _ _ (by decide +kernel), _, rfl, _, t', v', rfl, hv', fun p ws hp hws => ?_⟩
      have s1 := same_new hp (.lst ws)
      refine ⟨p, rfl, ⟨_, SqL.of upd_same⟩, for_list (K := K) (a := p) (xs := ws) (fun j σ H2 => ∃ o, σ = [some (.ref L.kd), some v', some u, o] ∧ Same (upd H p (.lst ws)) H2) ⟨_, rfl, Same.refl _⟩ (fun j σ H2 _ ⟨_, _, s2⟩ => SqL.of (s2 _ _ upd_same)) ?_ ?_⟩
      · rintro j x σ H2 hj ⟨o, rfl, s2⟩
        obtain ⟨q, hq, hx⟩ := hws.get' hj
        have s3 := s1.trans s2
        have A3 := hA.same s3
        refine ⟨_, rfl, _, _, _, rfl, A3.oK, fK0 _ _ (by decide +kernel), _, rfl, _, rfl, L, s, q, i, x, u, rfl, A3, hx.ext (sExt s3), hu.ext (sExt s3), hps q (List.mem_of_getElem? hq), fun H4 s4 => ?_⟩
        exact ⟨_, rfl, iteF ⟨_, rfl, s2.trans s4⟩⟩
      · rintro σ H2 ⟨o, rfl, s2⟩
        exact k _ (s1.trans s2)
end
end K9
/-! The class Kinds: size_within, settled, bind, unify, __init__. -/
namespace K9
open PySem L2
def RtAt (K : PySem.W.Frag) (H : Hp) : RT → V → Prop
  | .int, v => ∃ a, v = .ref a ∧ Tp K H a [.str "int"]
  | .bool, v => ∃ a, v = .ref a ∧ Tp K H a [.str "bool"]
  | .unit, v => ∃ a, v = .ref a ∧ Tp K H a [.str "unit"]
  | .pair x y, v => ∃ a vx vy, v = .ref a ∧ Tp K H a [.str "pair", vx, vy] ∧ RtAt K H x vx ∧ RtAt K H y vy
  | .fn x y, v => ∃ a e vx vy, v = .ref a ∧ Tp K H a [.str "fun", vx, .ref e, vy] ∧ Tp K H e [] ∧ RtAt K H x vx ∧ RtAt K H y vy
theorem RtAt.ext {K : PySem.W.Frag} {H H' : Hp} (e : Ext H H') : ∀ {t : RT} {v : V}, RtAt K H t v → RtAt K H' t v
  | .int, _, ⟨a, h1, h2⟩ => ⟨a, h1, h2.ext e⟩
  | .bool, _, ⟨a, h1, h2⟩ => ⟨a, h1, h2.ext e⟩
  | .unit, _, ⟨a, h1, h2⟩ => ⟨a, h1, h2.ext e⟩
  | .pair _ _, _, ⟨a, vx, vy, h1, h2, h3, h4⟩ => ⟨a, vx, vy, h1, h2.ext e, RtAt.ext e h3, RtAt.ext e h4⟩
  | .fn _ _, _, ⟨a, u, vx, vy, h1, h2, h5, h3, h4⟩ => ⟨a, u, vx, vy, h1, h2.ext e, h5.ext e, RtAt.ext e h3, RtAt.ext e h4⟩
/-- the least rows: n empty tuples in a list -/
def RowsAt (K : PySem.W.Frag) (H : Hp) (r : Addr) (n : Nat) : Prop := ∃ vs, H r = some (.lst vs) ∧ vs.length = n ∧ ∀ v ∈ vs, ∃ e, v = .ref e ∧ Tp K H e []
theorem RowsAt.same {K : PySem.W.Frag} {H H' : Hp} {r : Addr} {n : Nat} (h : RowsAt K H r n) (s : Same H H') : RowsAt K H' r n := by
  obtain ⟨vs, h1, h2, h3⟩ := h
  exact ⟨vs, s _ _ h1, h2, fun v hv => by obtain ⟨e, e1, e2⟩ := h3 v hv; exact ⟨e, e1, e2.ext (sExt s)⟩⟩
def spKsettled (K : PySem.W.Frag) (A : Adr) (n : Nat) : Sp := fun vs H Q _ => ∃ (L : Lay) (s : S) (t : Ty) (rt : RT) (nl : Nat) (v : V) (r : Addr), vs = [.ref L.kd, v, .ref r] ∧ At K A.toCl L H s ∧ TyAt K H t v ∧ RowsAt K H r nl ∧ res s.ms nl n t = some rt ∧ ∀ H' v', Same H H' → RtAt K H' rt v' → Q v' H'
def spKbind (K : PySem.W.Frag) (A : Adr) : Sp := fun vs H Q _ => ∃ (L : Lay) (s s' : S) (a b : Ty) (v u : V), vs = [.ref L.kd, v, u] ∧ At K A.toCl L H s ∧ TyAt K H a v ∧ TyAt K H b u ∧ ((∃ i, a = .var i ∧ bind s i b = some s') ∨ (a.hc ≠ 3 ∧ ∃ j, b = .var j ∧ bind s j a = some s')) ∧
  ∀ H', Kp L H H' → At K A.toCl L H' s' → Q (.bl true) H'
def spKunify (K : PySem.W.Frag) (A : Adr) (n : Nat) : Sp := fun vs H Q _ => ∃ (L : Lay) (s s' : S) (a b : Ty) (v u : V), vs = [.ref L.kd, v, u] ∧ At K A.toCl L H s ∧ TyAt K H a v ∧ TyAt K H b u ∧ unify n s a b = some s' ∧
  ∀ H', Kp L H H' → At K A.toCl L H' s' → Q (.bl true) H'
section
variable {P : Program} {w : World} {K : PySem.W.Frag} {mg : Str → Option Value} {base : Heap} {A : Adr}
theorem scKt : FnScope ["self", "known", "rows"] ["self", "known", "rows"] (defScope sKsettled) := ⟨rfl, rfl, rfl, by decide +kernel, rfl, by decide +kernel, by decide +kernel⟩
theorem scKb : FnScope ["self", "one", "other"] ["self", "one", "other"] (defScope sKbind) := ⟨rfl, rfl, rfl, by decide +kernel, rfl, by decide +kernel, by decide +kernel⟩
theorem scKu : FnScope ["self", "one", "other", "left", "right"] ["self", "one", "other"] (defScope sKunify) := ⟨rfl, rfl, rfl, by decide +kernel, rfl, by decide +kernel, by decide +kernel⟩
theorem sz_succ {ms : Ms} {n k : Nat} {t : Ty} (h : sz ms (n + 1) t = some k) : ∃ t' ks, hd ms 30 t = some t' ∧ All2 (fun p k => sz ms n p = some k) t'.parts ks ∧ k = 1 + ks.sum := by
  simp only [sz] at h
  cases ht : hd ms 30 t with
  | none => rw [ht] at h; cases h
  | some t' =>
    rw [ht] at h
    cases t' with
    | pair x y =>
      dsimp only at h
      obtain ⟨a, ha, h⟩ := Option.bind_eq_some_iff.mp h
      obtain ⟨b, hb, h⟩ := Option.bind_eq_some_iff.mp h
      refine ⟨_, [a, b], rfl, .cons ha (.cons hb .nil), ?_⟩
      rw [← Option.some.inj h]
      simp [List.sum_cons]
      omega
    | fn x r y =>
      dsimp only at h
      obtain ⟨a, ha, h⟩ := Option.bind_eq_some_iff.mp h
      obtain ⟨b, hb, h⟩ := Option.bind_eq_some_iff.mp h
      refine ⟨_, [a, b], rfl, .cons ha (.cons hb .nil), ?_⟩
      rw [← Option.some.inj h]
      simp [List.sum_cons]
      omega
    | _ => exact ⟨_, [], rfl, .nil, (Option.some.inj h).symm⟩
theorem sum_take_le : ∀ {ks : List Nat} {i k : Nat}, ks[i]? = some k → (ks.take (i + 1)).sum = (ks.take i).sum + k ∧ (ks.take (i + 1)).sum ≤ ks.sum
  | [], _, _, h => by simp at h
  | x :: r, 0, k, h => by simp at h; subst h; simp [List.sum_cons]
  | x :: r, i + 1, k, h => by
    have ih := sum_take_le (ks := r) (i := i) (by simpa using h)
    simp only [List.take_succ_cons, List.sum_cons]
    omega
theorem ok_Ksize (T : Txt P w K mg A) : ∀ n : Nat, FnOk P w K mg base CX0 (n + 1) A.kZ.a A.kZ.d ["self", "known", "room"] (spKsize K A n)
  | 0 => by
    have no : ∀ vs H Q E, ¬ spKsize K A 0 vs H Q E := fun vs H Q E ⟨L, s, t, k, r, v, _, _, _, h, _⟩ => by simp [sz] at h
    exact ⟨fun vs H Q E h => absurd h (no vs H Q E), fun A outer s H args us vs Q E _ _ _ _ h => absurd h (no vs H Q E)⟩
  | n + 1 => by
    have IH := ok_Ksize T n
    have GS := (ok_Kseen (base := base) T).mono (show 1 ≤ n + 1 by omega)
    have GN := (ok_Kinner (base := base) T).mono (show 1 ≤ n + 1 by omega)
    refine T.tK.Z.F.ok scKz (fun vs H Q E h => ?_) (fun cdv A0 outer s0 H vs Q E hr h => ?_)
    · obtain ⟨L, s, t, k, room, v, rfl, _⟩ := h
      rfl
    · obtain ⟨L, s, t, k, room, v, rfl, hA, hv, hz, q⟩ := h
      obtain ⟨t', ks, ht, hks, hk⟩ := sz_succ hz
      refine ⟨_, pss_cons (ps_aug (i := 2) scKz.nd rfl (Or.inl rfl) pe_int ip_sub)
        (pss_cons (ps_if (pt_cmpR op_ge (pv 2) pe_int (nomark _))
          (pss_one (ps_for PassesOwn.never rfl (pi_list (pe_meth (pv 0) T.tK.cl T.tK.N.m GN hr T.tK.N.b .nil pass0 (pa_cons (pe_meth (pv 0) T.tK.cl T.tK.S.m GS hr T.tK.S.b .nil pass0 (pa_cons (pv 1) pa_nil)) pa_nil))) (pg_name (i := 3) scKz.nd rfl (Or.inl rfl))
            (pss_cons (ps_set (i := 2) scKz.nd rfl (Or.inl rfl) (pe_meth (pv 0) T.tK.cl T.tK.Z.m IH hr T.tK.Z.b .nil pass0 (pa_cons (pv 3) (pa_cons (pv 2) pa_nil))))
            (pss_one (ps_if (pt_cmpR op_lt (pv 2) pe_int (nomark _)) (pss_one (ps_ret (pv 2))) pss_nil))))) pss_nil)
        (pss_one (ps_ret (pv 2)))), ?_⟩
      refine ⟨_, rfl, _, _, rfl, rfl, _, rfl, _, _, rfl, rfl, _, rfl, ?_⟩
      refine ite2 (fun c => ?_) (fun c => ?_)
      · have c' : (room : Int) - 1 ≥ 0 := of_decide_eq_true c
        refine ⟨_, rfl, _, _, _, rfl, hA.oK, fK0 _ _ (by decide +kernel), _, rfl, _, _, _, rfl, hA.oK, fK0 _ _ (by decide +kernel), _, rfl, L, s, t, t', v, rfl, hA, hv, ht, fun v' hv' => ?_⟩
        refine ⟨_, t', v', rfl, hv', fun p ws hp hws => ?_⟩
        have s1 := same_new hp (.lst ws)
        refine ⟨p, rfl, ⟨_, SqL.of upd_same⟩, for_list (K := K) (a := p) (xs := ws) (fun j σ H2 => ∃ o, σ = [some (.ref L.kd), some v, some (.int ((room : Int) - 1 - ((ks.take j).sum : Nat))), o] ∧ Same (upd H p (.lst ws)) H2 ∧ (ks.take j).sum + 1 ≤ room)
          ⟨none, ?_, Same.refl _, ?_⟩ (fun j σ H2 _ ⟨_, _, s2, _⟩ => SqL.of (s2 _ _ upd_same)) ?_ ?_⟩
        · simp
          rfl
        · simp
          omega
        · rintro j x σ H2 hj ⟨o, rfl, s2, hle⟩
          obtain ⟨pt, hpt, hx⟩ := hws.get' hj
          obtain ⟨kj, hkj, hszj⟩ := hks.get hpt
          obtain ⟨e1, e2⟩ := sum_take_le hkj
          have s3 := s1.trans s2
          have A3 := hA.same s3
          obtain ⟨rj, hrj⟩ : ∃ rj : Nat, (room : Int) - 1 - ((ks.take j).sum : Nat) = (rj : Nat) := ⟨room - 1 - (ks.take j).sum, by omega⟩
          refine ⟨_, rfl, _, _, _, rfl, A3.oK, fK0 _ _ (by decide +kernel), _, rfl, _, rfl, L, s, pt, kj, rj, x, by rw [hrj]; rfl, A3, hx.ext (sExt s3), hszj, fun H4 s4 => ?_⟩
          refine ⟨_, rfl, _, _, rfl, rfl, _, rfl, ?_⟩
          have s5 := s3.trans s4
          by_cases hc : kj ≤ rj
          · have el : left rj kj = (room : Int) - 1 - ((ks.take (j + 1)).sum : Nat) := by
              unfold left
              rw [if_pos hc]
              omega
            refine ite2 (fun c => ?_) (fun c => ?_)
            · have := of_decide_eq_true c
              unfold left at this
              rw [if_pos hc] at this
              omega
            · exact ⟨some x, by rw [el]; rfl, s2.trans s4, by omega⟩
          · have el : left rj kj = -1 := by unfold left; rw [if_neg hc]
            refine ite2 (fun c => ?_) (fun c => ?_)
            · refine ⟨_, rfl, ?_⟩
              have et : left room k = left rj kj := by
                rw [el]
                unfold left
                rw [if_neg (by omega)]
              rw [← et]
              exact q _ s5
            · exfalso
              apply c
              rw [el]
              decide
        · rintro σ H2 ⟨o, rfl, s2, hle⟩
          refine ⟨_, rfl, ?_⟩
          have hl : ks.length = ws.length := by rw [hks.length, hws.length]
          have et : left room k = (room : Int) - 1 - ((ks.take ws.length).sum : Nat) := by
            rw [← hl, List.take_length] at hle ⊢
            unfold left
            rw [if_pos (by omega)]
            omega
          rw [← et]
          exact q _ (s1.trans s2)
      · have c' : ¬ (room : Int) - 1 ≥ 0 := of_decide_eq_false (Bool.eq_false_iff.mpr c)
        refine ⟨_, rfl, ?_⟩
        have et : left room k = (room : Int) - 1 := by
          unfold left
          rw [if_neg (by omega)]
          omega
        show Q (.int ((room : Int) - 1)) H
        rw [← et]
        exact q _ (Same.refl _)
theorem ok_Ksettled (T : Txt P w K mg A) : ∀ n : Nat, FnOk P w K mg base CX0 (n + 1) A.kT.a A.kT.d ["self", "known", "rows"] (spKsettled K A n)
  | 0 => by
    have no : ∀ vs H Q E, ¬ spKsettled K A 0 vs H Q E := fun vs H Q E ⟨L, s, t, rt, nl, v, r, _, _, _, _, h, _⟩ => by simp [res] at h
    exact ⟨fun vs H Q E h => absurd h (no vs H Q E), fun A outer s H args us vs Q E _ _ _ _ h => absurd h (no vs H Q E)⟩
  | n + 1 => by
    have IH := ok_Ksettled T n
    have GS := (ok_Kseen (base := base) T).mono (show 1 ≤ n + 1 by omega)
    refine T.tK.T.F.ok scKt (fun vs H Q E h => ?_) (fun cdv A0 outer s0 H vs Q E hr h => ?_)
    · obtain ⟨L, s, t, rt, nl, v, r, rfl, _⟩ := h
      rfl
    · obtain ⟨L, s, t, rt, nl, v, r, rfl, hA, hv, hR, hz, q⟩ := h
      refine ⟨_, pss_cons (ps_set (i := 1) scKt.nd rfl (Or.inl rfl) (pe_meth (pv 0) T.tK.cl T.tK.S.m GS hr T.tK.S.b .nil pass0 (pa_cons (pv 1) pa_nil)))
        (pss_cons (ps_if (pt_cmpR op_eq (pe_ix ix_tup (pv 1) pe_int (fun _ _ => rfl)) pe_str (nomark _)) (pss_one (ps_ret (pe_glob (v := V.ref A.aU) rfl T.tK.u.1 rfl))) pss_nil)
        (pss_cons (ps_if (pt_cmpR op_eq (pe_ix ix_tup (pv 1) pe_int (fun _ _ => rfl)) pe_str (nomark _))
          (pss_one (ps_ret (pe_tup (pa_cons pe_str (pa_cons (pe_meth (pv 0) T.tK.cl T.tK.T.m IH hr T.tK.T.b .nil pass0 (pa_cons (pe_ix ix_tup (pv 1) pe_int (fun _ _ => rfl)) (pa_cons (pv 2) pa_nil)))
            (pa_cons (pe_ix ix_list (pv 2) (pe_ix ix_tup (pv 1) pe_int (fun _ _ => rfl)) (fun _ _ => rfl))
            (pa_cons (pe_meth (pv 0) T.tK.cl T.tK.T.m IH hr T.tK.T.b .nil pass0 (pa_cons (pe_ix ix_tup (pv 1) pe_int (fun _ _ => rfl)) (pa_cons (pv 2) pa_nil))) pa_nil))))))) pss_nil)
        (pss_cons (ps_if (pt_cmpR op_eq (pe_ix ix_tup (pv 1) pe_int (fun _ _ => rfl)) pe_str (nomark _))
          (pss_one (ps_ret (pe_tup (pa_cons pe_str (pa_cons (pe_meth (pv 0) T.tK.cl T.tK.T.m IH hr T.tK.T.b .nil pass0 (pa_cons (pe_ix ix_tup (pv 1) pe_int (fun _ _ => rfl)) (pa_cons (pv 2) pa_nil)))
            (pa_cons (pe_meth (pv 0) T.tK.cl T.tK.T.m IH hr T.tK.T.b .nil pass0 (pa_cons (pe_ix ix_tup (pv 1) pe_int (fun _ _ => rfl)) (pa_cons (pv 2) pa_nil))) pa_nil)))))) pss_nil)
        (pss_one (ps_ret (pv 1)))))), ?_⟩
      simp only [res] at hz
      cases ht : hd s.ms 30 t with
      | none => rw [ht] at hz; cases hz
      | some t' =>
        rw [ht] at hz
        refine ⟨_, rfl, _, _, _, rfl, hA.oK, fK0 _ _ (by decide +kernel), _, rfl, L, s, t, t', v, rfl, hA, hv, ht, fun v' hv' => ?_⟩
        obtain ⟨a, xs, e, ha⟩ := hv'.tup
        subst e
        refine ⟨_, rfl, a, _, _, _, rfl, rfl, ha.sq, at0, rfl, _, rfl, ?_⟩
        rw [hdec hvar (by decide)]
        by_cases h3 : t'.hc = 3
        · rw [decide_eq_true h3]
          have e : rt = .unit := by
            cases t' with
            | var i => exact (Option.some.inj hz).symm
            | _ => simp [Ty.hc] at h3
          subst e
          exact iteT (q H _ (Same.refl _) ⟨_, rfl, .inr T.tK.u.2⟩)
        · rw [decide_eq_false h3]
          refine iteF ⟨_, rfl, a, _, _, _, rfl, rfl, ha.sq, at0, rfl, _, rfl, ?_⟩
          rw [hdec hfun (by decide)]
          by_cases h5 : t'.hc = 5
          · rw [decide_eq_true h5]
            cases t' with
            | fn x rr y =>
              dsimp only at hz
              split at hz
              case isFalse => cases hz
              case isTrue hlt =>
              obtain ⟨rx, hx, hz⟩ := Option.bind_eq_some_iff.mp hz
              obtain ⟨ry, hy, hz⟩ := Option.bind_eq_some_iff.mp hz
              cases hz
              obtain ⟨b, vx, vy, e, hb, hvx, hvy⟩ := hv'
              cases e
              refine iteT ⟨_, rfl, _, _, _, rfl, hA.oK, fK0 _ _ (by decide +kernel), _, rfl, a, _, _, _, rfl, rfl, hb.sq, at1, _, rfl, L, s, x, rx, nl, vx, r, rfl, hA, hvx, hR, hx, fun H1 v1 s1 hv1 => ?_⟩
              have A1 := hA.same s1
              obtain ⟨vs, hr1, hr2, hr3⟩ := hR.same s1
              have hlt' : rr < vs.length := by omega
              obtain ⟨ee, e1, e2⟩ := hr3 _ (List.getElem_mem hlt')
              have hb1 := hb.ext (sExt s1)
              refine ⟨_, rfl, _, rfl, a, _, _, _, rfl, rfl, hb1.sq, at2, r, vs, _, _, rfl, rfl, SqL.of hr1, atI_nat (List.getElem?_eq_getElem hlt'), ?_⟩
              rw [e1]
              refine ⟨_, rfl, _, _, _, rfl, A1.oK, fK0 _ _ (by decide +kernel), _, rfl, a, _, _, _, rfl, rfl, hb1.sq, at3, _, rfl, L, s, y, ry, nl, vy, r, rfl, A1, hvy.ext (sExt s1), hR.same s1, hy, fun H2 v2 s2 hv2 => ?_⟩
              refine ⟨(by show 4 ≤ sizeLine; decide), fun p hp => ?_⟩
              have s3 := same_new hp (.tup [.str "fun", v1, .ref ee, v2])
              exact q _ _ (s1.trans (s2.trans s3)) ⟨p, ee, v1, v2, rfl, Tp.of upd_same, e2.ext (sExt (s2.trans s3)), hv1.ext (sExt (s2.trans s3)), hv2.ext (sExt s3)⟩
            | _ => simp [Ty.hc] at h5
          · rw [decide_eq_false h5]
            refine iteF ⟨_, rfl, a, _, _, _, rfl, rfl, ha.sq, at0, rfl, _, rfl, ?_⟩
            rw [hdec hpair (by decide)]
            by_cases h4 : t'.hc = 4
            · rw [decide_eq_true h4]
              cases t' with
              | pair x y =>
                dsimp only at hz
                obtain ⟨rx, hx, hz⟩ := Option.bind_eq_some_iff.mp hz
                obtain ⟨ry, hy, hz⟩ := Option.bind_eq_some_iff.mp hz
                cases hz
                obtain ⟨b, vx, vy, e, hb, hvx, hvy⟩ := hv'
                cases e
                refine iteT ⟨_, rfl, _, _, _, rfl, hA.oK, fK0 _ _ (by decide +kernel), _, rfl, a, _, _, _, rfl, rfl, hb.sq, at1, _, rfl, L, s, x, rx, nl, vx, r, rfl, hA, hvx, hR, hx, fun H1 v1 s1 hv1 => ?_⟩
                have A1 := hA.same s1
                have hb1 := hb.ext (sExt s1)
                refine ⟨_, rfl, _, _, _, rfl, A1.oK, fK0 _ _ (by decide +kernel), _, rfl, a, _, _, _, rfl, rfl, hb1.sq, at2, _, rfl, L, s, y, ry, nl, vy, r, rfl, A1, hvy.ext (sExt s1), hR.same s1, hy, fun H2 v2 s2 hv2 => ?_⟩
                refine ⟨(by show 3 ≤ sizeLine; decide), fun p hp => ?_⟩
                have s3 := same_new hp (.tup [.str "pair", v1, v2])
                exact q _ _ (s1.trans (s2.trans s3)) ⟨p, v1, v2, rfl, Tp.of upd_same, hv1.ext (sExt (s2.trans s3)), hv2.ext (sExt s3)⟩
              | _ => simp [Ty.hc] at h4
            · rw [decide_eq_false h4]
              refine iteF ⟨_, rfl, q H _ (Same.refl _) ?_⟩
              cases t' <;> first | (simp [Ty.hc] at h3 h4 h5; done) | (cases hz; exact hv')
end
end K9
/-! The class Kinds: bind, unify, __init__. -/
namespace K9
open PySem L2
section
variable {P : Program} {w : World} {K : PySem.W.Frag} {mg : Str → Option Value} {base : Heap} {A : Adr}
theorem bind_some {s s' : S} {i : Nat} {t : Ty} (h : bind s i t = some s') : noocc s.ms i 30 t = true ∧ i < s.ms.length ∧ s' = { s with ms := s.ms.set i (some t) } := by
  unfold bind at h
  split at h
  · rename_i hl
    exact ⟨hl.1, hl.2, (Option.some.inj h).symm⟩
  · cases h
theorem ok_Kbind (T : Txt P w K mg A) : FnOk P w K mg base CX0 32 A.kB.a A.kB.d ["self", "one", "other"] (spKbind K A) := by
  have GC := ok_Kcontains (base := base) T 30
  refine T.tK.B.F.ok scKb (fun vs H Q E h => ?_) (fun cdv A0 outer s0 H vs Q E hr h => ?_)
  · obtain ⟨L, s, s', a, b, v, u, rfl, _⟩ := h
    rfl
  · obtain ⟨L, s, s', a, b, v, u, rfl, hA, hv, hu, hb, q⟩ := h
    refine ⟨_, pss_cons (ps_if (pt_cmpR op_ne (pe_ix ix_tup (pv 1) pe_int (fun _ _ => rfl)) pe_str (nomark _)) (pss_one (ps_par (i := 1) (j := 2) rfl scKb.nd rfl rfl (by decide) rfl rfl (pa_cons (pv 2) (pa_cons (pv 1) pa_nil)) (by rfl))) pss_nil)
      (pss_cons (ps_if (pt_val (pe_meth (pv 0) T.tK.cl T.tK.C.m GC hr T.tK.C.b .nil pass0 (pa_cons (pv 2) (pa_cons (pv 1) pa_nil)))) (pss_one (ps_ret pe_bl)) pss_nil)
      (pss_cons (ps_asg (pv 2) (pg_sub (pe_fld (pv 0) rfl) (pe_ix ix_tup (pv 1) pe_int (fun _ _ => rfl)) set_list))
      (pss_one (ps_ret pe_bl)))), ?_⟩
    obtain ⟨a0, xs, e, ha⟩ := hv.tup
    subst e
    refine ⟨_, rfl, a0, _, _, _, rfl, rfl, ha.sq, at0, rfl, _, rfl, ?_⟩
    rw [hdec hvar (by decide)]
    rcases hb with ⟨i', rfl, hb⟩ | ⟨hc, i', rfl, hb⟩
    · obtain ⟨hno, hlt, rfl⟩ := bind_some hb
      rw [show (!decide ((Ty.var i').hc = 3)) = false by rfl]
      refine iteF ?_
      obtain ⟨u1, hu1⟩ : ∃ u1, u1 = V.ref a0 := ⟨_, rfl⟩
      rw [← hu1] at hv ⊢
      obtain ⟨h1, h2⟩ := And.intro hv hu
      generalize u = u2 at h2 ⊢
      refine ⟨_, rfl, _, _, _, rfl, hA.oK, fK0 _ _ (by decide +kernel), _, rfl, _, rfl, L, s, b, i', u2, u1, rfl, hA, h2, h1, hno, fun H1 s1 => ?_⟩
      refine ⟨_, rfl, iteF ⟨_, rfl, ?_⟩⟩
      have A1 := hA.same s1
      obtain ⟨mv, hm, hml⟩ := A1.ms
      obtain ⟨a1, e1, ha1⟩ := h1
      subst e1
      have ha2 := ha1.ext (sExt s1)
      refine ⟨_, rfl, _, _, _, _, _, rfl, A1.oK, T.tK.cl, T.tK.nm, fKm _ _, _, rfl, a1, _, _, _, rfl, rfl, ha2.sq, at1, L.lm, mv, _, i', rfl, rfl, hm, ixN_nat (by rw [hml.length]; exact hlt), ?_⟩
      exact q _ ((Kp.of s1).trans (A1.kp L.inM _)) (A1.setMs (hml.set (a := some b) (b := u2) (h2.ext (sExt s1)) i'))
    · obtain ⟨hno, hlt, rfl⟩ := bind_some hb
      rw [decide_eq_false hc]
      refine iteT ⟨_, rfl, _, rfl, _, _, rfl, ?_⟩
      obtain ⟨u2, hu2⟩ : ∃ u2, u2 = V.ref a0 := ⟨_, rfl⟩
      rw [← hu2] at hv ⊢
      obtain ⟨h1, h2⟩ := And.intro hu hv
      generalize u = u1 at h1 ⊢
      refine ⟨_, rfl, _, _, _, rfl, hA.oK, fK0 _ _ (by decide +kernel), _, rfl, _, rfl, L, s, a, i', u2, u1, rfl, hA, h2, h1, hno, fun H1 s1 => ?_⟩
      refine ⟨_, rfl, iteF ⟨_, rfl, ?_⟩⟩
      have A1 := hA.same s1
      obtain ⟨mv, hm, hml⟩ := A1.ms
      obtain ⟨a1, e1, ha1⟩ := h1
      subst e1
      have ha2 := ha1.ext (sExt s1)
      refine ⟨_, rfl, _, _, _, _, _, rfl, A1.oK, T.tK.cl, T.tK.nm, fKm _ _, _, rfl, a1, _, _, _, rfl, rfl, ha2.sq, at1, L.lm, mv, _, i', rfl, rfl, hm, ixN_nat (by rw [hml.length]; exact hlt), ?_⟩
      exact q _ ((Kp.of s1).trans (A1.kp L.inM _)) (A1.setMs (hml.set (a := some a) (b := u2) (h2.ext (sExt s1)) i'))
theorem ok_Kunify (T : Txt P w K mg A) : ∀ n : Nat, FnOk P w K mg base CX0 (n + 33) A.kU.a A.kU.d ["self", "one", "other"] (spKunify K A n)
  | 0 => by
    have no : ∀ vs H Q E, ¬ spKunify K A 0 vs H Q E := fun vs H Q E ⟨L, s, s', a, b, v, u, _, _, _, _, h, _⟩ => by simp [unify] at h
    exact ⟨fun vs H Q E h => absurd h (no vs H Q E), fun A outer s H args us vs Q E _ _ _ _ h => absurd h (no vs H Q E)⟩
  | n + 1 => by
    have IH := ok_Kunify T n
    have GS := (ok_Kseen (base := base) T).mono (show 1 ≤ n + 33 by omega)
    have GN := (ok_Kinner (base := base) T).mono (show 1 ≤ n + 33 by omega)
    have GB := (ok_Kbind (base := base) T).mono (show 32 ≤ n + 33 by omega)
    have GM := (ok_Rsame (base := base) T).mono (show 2 ≤ n + 33 by omega)
    refine T.tK.U.F.ok (k := n + 33) scKu (fun vs H Q E h => ?_) (fun cdv A0 outer s0 H vs Q E hr h => ?_)
    · obtain ⟨L, s, s', a, b, v, u, rfl, _⟩ := h
      rfl
    · obtain ⟨L, s, s', a, b, v, u, rfl, hA, hv, hu, hs, q⟩ := h
      refine ⟨_, pss_cons (ps_set (i := 1) scKu.nd rfl (Or.inl rfl) (pe_meth (pv 0) T.tK.cl T.tK.S.m GS hr T.tK.S.b .nil pass0 (pa_cons (pv 1) pa_nil)))
        (pss_cons (ps_set (i := 2) scKu.nd rfl (Or.inl rfl) (pe_meth (pv 0) T.tK.cl T.tK.S.m GS hr T.tK.S.b .nil pass0 (pa_cons (pv 2) pa_nil)))
        (pss_cons (ps_if (pt_cmpR (op_eqD hr.units) (pv 1) (pv 2) (nomark _)) (pss_one (ps_ret pe_bl)) pss_nil)
        (pss_cons (ps_if (PW.pt (pw_or (pt_cmpR op_eq (pe_ix ix_tup (pv 1) pe_int (fun _ _ => rfl)) pe_str (nomark _)) (pw_or1 (pt_cmpR op_eq (pe_ix ix_tup (pv 2) pe_int (fun _ _ => rfl)) pe_str (nomark _)))))
          (pss_one (ps_ret (pe_meth (pv 0) T.tK.cl T.tK.B.m GB hr T.tK.B.b .nil pass0 (pa_cons (pv 1) (pa_cons (pv 2) pa_nil))))) pss_nil)
        (pss_cons (ps_if (pt_cmpR op_ne (pe_ix ix_tup (pv 1) pe_int (fun _ _ => rfl)) (pe_ix ix_tup (pv 2) pe_int (fun _ _ => rfl)) (nomark _)) (pss_one (ps_ret pe_bl)) pss_nil)
        (pss_cons (ps_if (pt_cmpR op_eq (pe_ix ix_tup (pv 1) pe_int (fun _ _ => rfl)) pe_str (nomark _))
          (pss_one (ps_expr (pe_meth (pe_fld (pv 0) rfl) T.tR.cl T.tR.S.m GM hr T.tR.S.b .nil pass0 (pa_cons (pe_ix ix_tup (pv 1) pe_int (fun _ _ => rfl)) (pa_cons (pe_ix ix_tup (pv 2) pe_int (fun _ _ => rfl)) pa_nil))))) pss_nil)
        (pss_cons (ps_for PassesOwn.never rfl (pi_zip (by rfl) T.tB.zip (pa_cons (pe_meth (pv 0) T.tK.cl T.tK.N.m GN hr T.tK.N.b .nil pass0 (pa_cons (pv 1) pa_nil)) (pa_cons (pe_meth (pv 0) T.tK.cl T.tK.N.m GN hr T.tK.N.b .nil pass0 (pa_cons (pv 2) pa_nil)) pa_nil)))
          (pg_tup rfl (pgs_cons (pg_name (i := 3) scKu.nd rfl (Or.inl rfl)) (pgs_cons (pg_name (i := 4) scKu.nd rfl (Or.inl rfl)) pgs_nil)))
          (pss_one (ps_if (pt_not (pt_val (pe_meth (pv 0) T.tK.cl T.tK.U.m IH hr T.tK.U.b .nil pass0 (pa_cons (pv 3) (pa_cons (pv 4) pa_nil))))) (pss_one (ps_ret pe_bl)) pss_nil)))
        (pss_one (ps_ret pe_bl)))))))), ?_⟩
      simp only [unify] at hs
      obtain ⟨ta, hta, hs⟩ := Option.bind_eq_some_iff.mp hs
      obtain ⟨tb, htb, hs⟩ := Option.bind_eq_some_iff.mp hs
      split at hs
      case isFalse => cases hs
      case isTrue hd =>
      refine ⟨_, rfl, _, _, _, rfl, hA.oK, fK0 _ _ (by decide +kernel), _, rfl, L, s, a, ta, v, rfl, hA, hv, hta, fun va hva => ?_⟩
      refine ⟨_, rfl, _, _, _, rfl, hA.oK, fK0 _ _ (by decide +kernel), _, rfl, L, s, b, tb, u, rfl, hA, hu, htb, fun vb hvb => ?_⟩
      refine ⟨_, rfl, _, rfl, ta.data, tb.data, hva.dp, hvb.dp, Ty.shaped hd.1, Ty.shaped hd.2, _, rfl, ?_⟩
      rw [eqv_data]
      by_cases hab : ta = tb
      · rw [decide_eq_true hab]
        rw [if_pos hab] at hs
        cases hs
        exact iteT (q _ (Kp.refl _ _) hA)
      · rw [decide_eq_false hab]
        rw [if_neg hab] at hs
        refine iteF ?_
        obtain ⟨aa, xa, ea, ha⟩ := hva.tup
        obtain ⟨ab, xb, eb, hb⟩ := hvb.tup
        have reada : ∀ {σ : L2.St} {Q' : VK}, σ[1]? = some (some va) → Q' (.str ta.head) H → tOp (rIxT K) (tVar 1) (tC (.int 0)) σ H Q' := fun h1 h2 => ⟨_, h1, aa, _, _, _, ea, rfl, ha.sq, at0, h2⟩
        have readb : ∀ {σ : L2.St} {Q' : VK}, σ[2]? = some (some vb) → Q' (.str tb.head) H → tOp (rIxT K) (tVar 2) (tC (.int 0)) σ H Q' := fun h1 h2 => ⟨_, h1, ab, _, _, _, eb, rfl, hb.sq, at0, h2⟩
        refine ⟨_, rfl, aa, _, _, _, ea, rfl, ha.sq, at0, rfl, _, rfl, ?_⟩
        rw [hdec hvar (by decide)]
        by_cases ha3 : ta.hc = 3
        · rw [decide_eq_true ha3]
          refine iteT (iteT ⟨_, rfl, _, _, _, rfl, hA.oK, fK0 _ _ (by decide +kernel), _, rfl, _, rfl, L, s, s', ta, tb, va, vb, rfl, hA, hva, hvb, .inl ?_, fun H1 k1 A1 => q _ k1 A1⟩)
          cases ta with
          | var i => exact ⟨i, rfl, hs⟩
          | _ => simp [Ty.hc] at ha3
        · rw [decide_eq_false ha3]
          refine iteF ⟨_, rfl, ab, _, _, _, eb, rfl, hb.sq, at0, rfl, _, rfl, ?_⟩
          rw [hdec hvar (by decide)]
          by_cases hb3 : tb.hc = 3
          · rw [decide_eq_true hb3]
            refine iteT ⟨_, rfl, _, _, _, rfl, hA.oK, fK0 _ _ (by decide +kernel), _, rfl, _, rfl, L, s, s', ta, tb, va, vb, rfl, hA, hva, hvb, .inr ⟨ha3, ?_⟩, fun H1 k1 A1 => q _ k1 A1⟩
            cases tb with
            | var i =>
              refine ⟨i, rfl, ?_⟩
              cases ta <;> first | (simp [Ty.hc] at ha3; done) | exact hs
            | _ => simp [Ty.hc] at hb3
          · rw [decide_eq_false hb3]
            refine iteF ⟨_, rfl, aa, _, _, _, ea, rfl, ha.sq, at0, _, rfl, ab, _, _, _, eb, rfl, hb.sq, at0, rfl, _, rfl, ?_⟩
            rw [head_dec]
            cases ta with
            | fn a1 r1 b1 =>
              cases tb with
              | fn a2 r2 b2 =>
                dsimp only at hs
                obtain ⟨s1, hsm, hs⟩ := Option.bind_eq_some_iff.mp hs
                obtain ⟨s2', hu1, hu2⟩ := Option.bind_eq_some_iff.mp hs
                rw [show (!decide ((a1.fn r1 b1).hc = (a2.fn r2 b2).hc)) = false by rfl]
                refine iteF ⟨_, rfl, aa, _, _, _, ea, rfl, ha.sq, at0, rfl, _, rfl, ?_⟩
                rw [hdec hfun (by decide), show decide ((a1.fn r1 b1).hc = 5) = true by rfl]
                obtain ⟨xa1, va1, va2, eva, hva1, hva2, hva3⟩ := hva
                obtain ⟨xb1, vb1, vb2, evb, hvb1, hvb2, hvb3⟩ := hvb
                refine iteT ⟨_, rfl, _, _, _, _, _, rfl, hA.oK, T.tK.cl, T.tK.nr, fKr _ _, _, _, _, rfl, hA.oR, fR0 _ _ _ (by decide +kernel), _, rfl, xa1, _, _, _, eva, rfl, hva1.sq, at2, _, rfl, xb1, _, _, _, evb, rfl, hvb1.sq, at2, L, s, s1, r1, r2, rfl, hA, hsm, fun H1 kk A1 => ?_⟩
                have e1 := hA.ext kk
                have ha1 : TyAt K H1 (a1.fn r1 b1) va := ⟨xa1, va1, va2, eva, hva1.ext e1, hva2.ext e1, hva3.ext e1⟩
                have hb1 : TyAt K H1 (a2.fn r2 b2) vb := ⟨xb1, vb1, vb2, evb, hvb1.ext e1, hvb2.ext e1, hvb3.ext e1⟩
                refine ⟨_, rfl, _, _, _, rfl, A1.oK, fK0 _ _ (by decide +kernel), _, rfl, _, a1.fn r1 b1, _, rfl, ha1, fun p1 ws1 hp1 hws1 => ?_⟩
                have s2 := same_new hp1 (.lst ws1)
                have A2 := A1.same s2
                refine ⟨_, rfl, _, _, _, rfl, A2.oK, fK0 _ _ (by decide +kernel), _, rfl, _, a2.fn r2 b2, _, rfl, hb1.ext (sExt s2), fun p2 ws2 hp2 hws2 => ?_⟩
                have s3 := same_new hp2 (.lst ws2)
                have A3 := A2.same s3
                have pf1 := A1.none_foot hp1
                have pf2 := A2.none_foot hp2
                have g1 := s3 _ _ (show (upd H1 p1 (.lst ws1)) p1 = some (.lst ws1) from upd_same)
                have g2 : (upd (upd H1 p1 (.lst ws1)) p2 (.lst ws2)) p2 = some (.lst ws2) := upd_same
                have e3 := sExt s3
                generalize hH3 : upd (upd H1 p1 (.lst ws1)) p2 (.lst ws2) = H3 at s3 A3 g1 g2 e3
                have k13 : Kp L H1 H3 := by rw [← hH3]; exact Kp.of (s2.trans (same_new hp2 _))
                refine ⟨p1, p2, ws1, ws2, rfl, SqL.of g1, SqL.of g2, RZ.for_zipL (K := K) (by rw [hws1.length, hws2.length]; rfl) (fun j σ H4 => ∃ o1 o2 sj, σ = [some (.ref L.kd), some va, some vb, o1, o2] ∧ Kp L H3 H4 ∧ At K A.toCl L H4 sj ∧ (j = 0 → sj = s1) ∧ (j = 1 → sj = s2') ∧ (j = 2 → sj = s'))
                  ⟨none, none, s1, rfl, Kp.refl _ _, A3, fun _ => rfl, fun z => by omega, fun z => by omega⟩ (fun j σ H4 ⟨_, _, _, _, k4, _⟩ => ⟨SqL.of (k4 _ _ g1 pf1), SqL.of (k4 _ _ g2 pf2)⟩) ?_ ?_⟩
                · rintro j x y T' σ H4 hx hy ⟨o1, o2, sj, rfl, k4, A4, j0, j1, j2⟩ hT
                  obtain ⟨tx, htx, hx⟩ := hws1.get' hx
                  obtain ⟨ty, hty, hy⟩ := hws2.get' hy
                  have s5 := same_new hT (.tup [x, y])
                  have A5 := A4.same s5
                  have e4 := A3.ext k4
                  refine ⟨T', _, rfl, SqT.of upd_same, rfl, _, _, rfl, ?_⟩
                  refine ⟨_, _, rfl, rfl, ?_⟩
                  have hxx : TyAt K (upd H4 T' (.tup [x, y])) tx x := ((hx.ext (sExt s2)).ext (e3.trans (e4.trans (sExt s5)))) 
                  have hyy : TyAt K (upd H4 T' (.tup [x, y])) ty y := (hy.ext (e3.trans (e4.trans (sExt s5))))
                  have hj : j < 2 := by
                    have z := (List.getElem?_eq_some_iff.mp htx).1
                    exact z
                  have step : ∃ sn, unify n sj tx ty = some sn ∧ (j + 1 = 0 → sn = s1) ∧ (j + 1 = 1 → sn = s2') ∧ (j + 1 = 2 → sn = s') := by
                    rcases (show j = 0 ∨ j = 1 by omega) with rfl | rfl
                    · rw [j0 rfl]
                      cases htx
                      cases hty
                      exact ⟨s2', hu1, fun z => by omega, fun _ => rfl, fun z => by omega⟩
                    · rw [j1 rfl]
                      cases htx
                      cases hty
                      exact ⟨s', hu2, fun z => by omega, fun z => by omega, fun _ => rfl⟩
                  obtain ⟨sn, hsn, n0, n1, n2⟩ := step
                  refine ⟨_, rfl, _, _, _, rfl, A5.oK, fK0 _ _ (by decide +kernel), _, rfl, _, rfl, L, sj, sn, tx, ty, x, y, rfl, A5, hxx, hyy, hsn, fun H6 k6 A6 => ?_⟩
                  exact ⟨_, rfl, iteF ⟨_, _, sn, rfl, k4.trans ((Kp.of s5).trans k6), A6, n0, n1, n2⟩⟩
                · rintro σ H4 ⟨o1, o2, sj, rfl, k4, A4, j0, j1, j2⟩
                  have e5 : sj = s' := j2 (by rw [hws1.length]; rfl)
                  subst e5
                  exact q _ (kk.trans (k13.trans k4)) A4
              | _ => first | (simp [Ty.hc] at hb3; done) | cases hs
            | pair a1 b1 =>
              cases tb with
              | pair a2 b2 =>
                dsimp only at hs
                obtain ⟨s2', hu1, hu2⟩ := Option.bind_eq_some_iff.mp hs
                rw [show (!decide ((a1.pair b1).hc = (a2.pair b2).hc)) = false by rfl]
                refine iteF ⟨_, rfl, aa, _, _, _, ea, rfl, ha.sq, at0, rfl, _, rfl, ?_⟩
                rw [hdec hfun (by decide), show decide ((a1.pair b1).hc = 5) = false by rfl]
                refine iteF ?_
                have kk : Kp L H H := Kp.refl _ _
                have A1 := hA
                have ha1 := hva
                have hb1 := hvb
                refine ⟨_, rfl, _, _, _, rfl, A1.oK, fK0 _ _ (by decide +kernel), _, rfl, _, a1.pair b1, _, rfl, ha1, fun p1 ws1 hp1 hws1 => ?_⟩
                have s2 := same_new hp1 (.lst ws1)
                have A2 := A1.same s2
                refine ⟨_, rfl, _, _, _, rfl, A2.oK, fK0 _ _ (by decide +kernel), _, rfl, _, a2.pair b2, _, rfl, hb1.ext (sExt s2), fun p2 ws2 hp2 hws2 => ?_⟩
                have s3 := same_new hp2 (.lst ws2)
                have A3 := A2.same s3
                have pf1 := A1.none_foot hp1
                have pf2 := A2.none_foot hp2
                have g1 := s3 _ _ (show (upd H p1 (.lst ws1)) p1 = some (.lst ws1) from upd_same)
                have g2 : (upd (upd H p1 (.lst ws1)) p2 (.lst ws2)) p2 = some (.lst ws2) := upd_same
                have e3 := sExt s3
                generalize hH3 : upd (upd H p1 (.lst ws1)) p2 (.lst ws2) = H3 at s3 A3 g1 g2 e3
                have k13 : Kp L H H3 := by rw [← hH3]; exact Kp.of (s2.trans (same_new hp2 _))
                refine ⟨p1, p2, ws1, ws2, rfl, SqL.of g1, SqL.of g2, RZ.for_zipL (K := K) (by rw [hws1.length, hws2.length]; rfl) (fun j σ H4 => ∃ o1 o2 sj, σ = [some (.ref L.kd), some va, some vb, o1, o2] ∧ Kp L H3 H4 ∧ At K A.toCl L H4 sj ∧ (j = 0 → sj = s) ∧ (j = 1 → sj = s2') ∧ (j = 2 → sj = s'))
                  ⟨none, none, s, rfl, Kp.refl _ _, A3, fun _ => rfl, fun z => by omega, fun z => by omega⟩ (fun j σ H4 ⟨_, _, _, _, k4, _⟩ => ⟨SqL.of (k4 _ _ g1 pf1), SqL.of (k4 _ _ g2 pf2)⟩) ?_ ?_⟩
                · rintro j x y T' σ H4 hx hy ⟨o1, o2, sj, rfl, k4, A4, j0, j1, j2⟩ hT
                  obtain ⟨tx, htx, hx⟩ := hws1.get' hx
                  obtain ⟨ty, hty, hy⟩ := hws2.get' hy
                  have s5 := same_new hT (.tup [x, y])
                  have A5 := A4.same s5
                  have e4 := A3.ext k4
                  refine ⟨T', _, rfl, SqT.of upd_same, rfl, _, _, rfl, ?_⟩
                  refine ⟨_, _, rfl, rfl, ?_⟩
                  have hxx : TyAt K (upd H4 T' (.tup [x, y])) tx x := ((hx.ext (sExt s2)).ext (e3.trans (e4.trans (sExt s5)))) 
                  have hyy : TyAt K (upd H4 T' (.tup [x, y])) ty y := (hy.ext (e3.trans (e4.trans (sExt s5))))
                  have hj : j < 2 := by
                    have z := (List.getElem?_eq_some_iff.mp htx).1
                    exact z
                  have step : ∃ sn, unify n sj tx ty = some sn ∧ (j + 1 = 0 → sn = s) ∧ (j + 1 = 1 → sn = s2') ∧ (j + 1 = 2 → sn = s') := by
                    rcases (show j = 0 ∨ j = 1 by omega) with rfl | rfl
                    · rw [j0 rfl]
                      cases htx
                      cases hty
                      exact ⟨s2', hu1, fun z => by omega, fun _ => rfl, fun z => by omega⟩
                    · rw [j1 rfl]
                      cases htx
                      cases hty
                      exact ⟨s', hu2, fun z => by omega, fun z => by omega, fun _ => rfl⟩
                  obtain ⟨sn, hsn, n0, n1, n2⟩ := step
                  refine ⟨_, rfl, _, _, _, rfl, A5.oK, fK0 _ _ (by decide +kernel), _, rfl, _, rfl, L, sj, sn, tx, ty, x, y, rfl, A5, hxx, hyy, hsn, fun H6 k6 A6 => ?_⟩
                  exact ⟨_, rfl, iteF ⟨_, _, sn, rfl, k4.trans ((Kp.of s5).trans k6), A6, n0, n1, n2⟩⟩
                · rintro σ H4 ⟨o1, o2, sj, rfl, k4, A4, j0, j1, j2⟩
                  have e5 : sj = s' := j2 (by rw [hws1.length]; rfl)
                  subst e5
                  exact q _ (kk.trans (k13.trans k4)) A4
              | _ => first | (simp [Ty.hc] at hb3; done) | cases hs
            | _ => first | (simp [Ty.hc] at ha3; done) | (cases tb <;> first | (simp [Ty.hc] at hb3; done) | cases hs)
end
end K9
/-! Kinds.__init__, Inferrer.__init__, looked_up, fits, composed. -/
namespace K9
open PySem L2
theorem pf1 {f : Str} {v : V} : putF f v [] = [(f, v)] := rfl
theorem pfc {f g : Str} {v x : V} {r : List (Str × V)} (h : ¬ g = f) : putF f v ((g, x) :: r) = (g, x) :: putF f v r := by
  show (if g = f then _ else _) = _
  rw [if_neg h]
def spIinit (A : Adr) : Sp := fun vs H Q _ => ∃ (p dx t : Addr), vs = [.ref p, .ref t] ∧ H p = some (.ins A.cI dx []) ∧ H t = some (.tup []) ∧
  ∀ (L : Lay) (H' : Hp), L.inf = p → L.dI = dx → (∀ b ∈ L.foot, H b = none) → L.foot.Nodup →
  H' L.inf = some (.ins A.cI L.dI [("signatures", .ref L.sg), ("kinds", .ref L.kd), ("rows", .ref L.rw), ("types", .ref L.lt), ("own_rows", .ref L.lo)]) →
  H' L.kd = some (.ins A.cK L.dK [("rows", .ref L.rw), ("meanings", .ref L.lm)]) → H' L.rw = some (.ins A.cR L.dR [("links", .ref L.ll), ("names", .ref L.ln), ("flows", .ref L.lf)]) →
  (∀ b ∈ L.foot, H' b = some (.lst [])) → (∀ d o, H d = some o → d ≠ p → H' d = some o) → Q .non H'
def spSigs : Sp := fun vs H Q _ => ∃ (t : Addr), vs = [.ref t] ∧ H t = some (.tup []) ∧ ∀ p, H p = none → Q (.ref p) (upd H p (.dK []))
def spLooked (K : PySem.W.Frag) : Sp := fun vs H Q _ => ∃ (env : Ev) (x : Nm) (t : Ty) (v : V), vs = [v, .str (nm x)] ∧ EvAt K H env v ∧ env.lookup x = some t ∧ ∀ v', TyAt K H t v' → Q v' H
def spFits (K : PySem.W.Frag) (A : Adr) : Sp := fun vs H Q _ => ∃ (L : Lay) (s s' : S) (n : Nat) (t : Ty) (v : V), vs = [.ref L.inf, .int (n : Nat), v] ∧ At K A.toCl L H s ∧ TyAt K H t v ∧ fits s n t = some s' ∧ ∀ H', Kp L H H' → At K A.toCl L H' s' → Q .non H'
section
variable {P : Program} {w : World} {K : PySem.W.Frag} {mg : Str → Option Value} {base : Heap} {A : Adr}
theorem scIi : FnScope ["self", "operations"] ["self", "operations"] (defScope sIinit) := ⟨rfl, rfl, rfl, by decide +kernel, rfl, by decide +kernel, by decide +kernel⟩
theorem scIf : FnScope ["self", "number", "known"] ["self", "number", "known"] (defScope sIfits) := ⟨rfl, rfl, rfl, by decide +kernel, rfl, by decide +kernel, by decide +kernel⟩
theorem scLk : FnScope ["env", "name"] ["env", "name"] (defScope sLooked) := ⟨rfl, rfl, rfl, by decide +kernel, rfl, by decide +kernel, by decide +kernel⟩
theorem scSg : FnScope ["operations", "found", "name", "given", "answer"] ["operations"] (defScope sSigs) := ⟨rfl, rfl, rfl, by decide +kernel, rfl, by decide +kernel, by decide +kernel⟩
theorem ok_Kinit (T : Txt P w K mg A) : FnOk P w K mg base CX0 3 A.kI.a A.kI.d ["self"] (spKinit A) := by
  have GR := ok_Rinit (base := base) T
  refine T.tK.I.F.ok (k := 2) scKi (fun vs H Q E h => ?_) (fun cdv A0 outer s0 H vs Q E hr h => ?_)
  · obtain ⟨p, dx, rfl, _⟩ := h
    rfl
  · obtain ⟨p, dx, rfl, hp, k⟩ := h
    refine ⟨_, pss_cons (ps_fld (pv 0) (pe_make0 T.tR.mm GR hr rfl T.tR.g T.tR.I.b .nil pass0) rfl) (pss_one (ps_fld (pv 0) (pe_lst pa_nil) rfl)), ?_⟩
    intro x dR nx ndx nex
    refine ⟨x, dR, rfl, upd_same, fun a b c H1 ha hb hc ab ac bc h1 h2 h3 h4 kp => ⟨rfl, ?_⟩⟩
    have px : p ≠ x := ne_of_none hp nx
    have pd : p ≠ dR := ne_of_none hp ndx
    have up : ∀ {q : Addr}, (upd (upd H dR (.own x)) x (.ins A.cR dR [])) q = none → H q = none := fun {q} z => by
      by_cases e1 : q = x
      · rw [e1, upd_same] at z; cases z
      · rw [upd_ne e1] at z
        by_cases e2 : q = dR
        · rw [e2, upd_same] at z; cases z
        · rw [upd_ne e2] at z; exact z
    have k1 : ∀ d o, H d = some o → H1 d = some o := fun d o e => kp d o (by rw [upd_ne (ne_of_none e nx), upd_ne (ne_of_none e ndx)]; exact e) (ne_of_none e nx)
    have f1 : ∀ {q : Addr}, H1 q = none → H q = none := fun {q} z => by
      cases e : H q with
      | none => rfl
      | some o => rw [k1 q o e] at z; cases z
    have hp1 := k1 _ _ hp
    refine ⟨_, rfl, p, A.cK, dx, [], rfl, hp1, T.tK.cl, T.tK.nr, (by show 0 < 1000; decide), ?_⟩
    refine ⟨(by show 0 ≤ sizeLine; decide), fun m hm => ?_⟩
    have hmp : m ≠ p := fun z => by rw [z, upd_same] at hm; cases hm
    rw [upd_ne hmp] at hm
    refine ⟨_, rfl, p, A.cK, dx, _, rfl, (by rw [upd_ne hmp.symm]; exact upd_same), T.tK.cl, T.tK.nm, (by show 1 < 1000; decide), ?_⟩
    have e1 : putF ("meanings" : Str) (V.ref m) (putF ("rows" : Str) (V.ref x) []) = ([("rows", V.ref x), ("meanings", V.ref m)] : List (Str × V)) := by
      rw [pf1, pfc (by decide +kernel), pf1]
    have hpn : ∀ {q : Addr}, H q = none → q ≠ p := fun {q} z e => by rw [e, hp] at z; cases z
    refine k x dR a b c m _ nx (up ha) (up hb) (up hc) (f1 hm) ab ac bc (fun z => by rw [z, h2] at hm; cases hm) (fun z => by rw [z, h3] at hm; cases hm) (fun z => by rw [z, h4] at hm; cases hm) ?_ ?_ ?_ ?_ ?_ ?_ ?_
    · rw [upd_same, e1]
    · rw [upd_ne px.symm, upd_ne (ne_of_none h1 hm), upd_ne px.symm]; exact h1
    · rw [upd_ne (hpn (up ha)), upd_ne (ne_of_none h2 hm), upd_ne (hpn (up ha))]; exact h2
    · rw [upd_ne (hpn (up hb)), upd_ne (ne_of_none h3 hm), upd_ne (hpn (up hb))]; exact h3
    · rw [upd_ne (hpn (up hc)), upd_ne (ne_of_none h4 hm), upd_ne (hpn (up hc))]; exact h4
    · rw [upd_ne hmp, upd_same]
    · intro d o e hd
      have z := k1 d o e
      rw [upd_ne hd, upd_ne (ne_of_none z hm), upd_ne hd]
      exact z
theorem ok_sigs (T : Txt P w K mg A) : FnOk P w K mg base CX0 1 A.sg.a A.sg.d ["operations"] spSigs := by
  refine T.tI.s.F.ok scSg (fun vs H Q E h => ?_) (fun cdv A0 outer s0 H vs Q E hr h => ?_)
  · obtain ⟨t, rfl, _⟩ := h
    rfl
  · obtain ⟨t, rfl, ht, k⟩ := h
    refine ⟨_, pss_cons (ps_set (i := 1) scSg.nd rfl (Or.inl rfl) pe_dnewK)
      (pss_cons (ps_for PassesOwn.never rfl (pi_tup (pv 0)) (pg_tup rfl (pgs_cons (pg_name (i := 2) scSg.nd rfl (Or.inl rfl)) (pgs_cons (pg_name (i := 3) scSg.nd rfl (Or.inl rfl)) (pgs_cons (pg_name (i := 4) scSg.nd rfl (Or.inl rfl)) pgs_nil)))) pss_never)
      (pss_one (ps_ret (pv 1)))), ?_⟩
    intro p hp
    have ht1 := same_new hp (.dK []) _ _ ht
    refine ⟨_, rfl, t, rfl, ⟨_, SqT.of ht1⟩, for_tup (K := K) (a := t) (xs := []) (fun i σ H2 => i = 0 ∧ σ = [some (.ref t), some (.ref p), none, none, none] ∧ H2 = upd H p (.dK [])) ⟨rfl, rfl, rfl⟩ (fun i σ H2 _ ⟨_, _, e⟩ => by rw [e]; exact SqT.of ht1) ?_ ?_⟩
    · intro i x σ H2 hi
      cases hi
    · rintro σ H2 ⟨_, rfl, rfl⟩
      exact ⟨_, rfl, k p hp⟩
theorem ok_looked (T : Txt P w K mg A) : FnOk P w K mg base CX0 1 A.lk.a A.lk.d ["env", "name"] (spLooked K) := by
  refine T.tI.l.F.ok scLk (fun vs H Q E h => ?_) (fun cdv A0 outer s0 H vs Q E hr h => ?_)
  · obtain ⟨env, x, t, v, rfl, _⟩ := h
    rfl
  · obtain ⟨env, x, t, v, rfl, hE, hl, k⟩ := h
    refine ⟨_, pss_cons (ps_while PassesOwn.never (pt_cmp (pc_notN (pv 0)))
      (pss_cons (ps_if (pt_cmpR op_eq (pe_ix ix_tup (pv 0) pe_int (fun _ _ => rfl)) (pv 1) (nomark _)) (pss_one (ps_ret (pe_ix ix_tup (pv 0) pe_int (fun _ _ => rfl)))) pss_nil)
      (pss_one (ps_set (i := 0) scLk.nd rfl (Or.inl rfl) (pe_ix ix_tup (pv 0) pe_int (fun _ _ => rfl)))))) (pss_one ps_never), ?_⟩
    refine ⟨fun m σ H' => H' = H ∧ ∃ (env : Ev) (v : V), m = env.length ∧ σ = [some v, some (.str (nm x))] ∧ EvAt K H env v ∧ env.lookup x = some t, ⟨_, rfl, env, v, rfl, rfl, hE, hl⟩, ?_⟩
    rintro m σ H' ⟨rfl, env, v, rfl, rfl, hE, hl⟩
    cases env with
    | nil => cases hl
    | cons p r =>
      obtain ⟨y, ty⟩ := p
      obtain ⟨a, vt, vr, rfl, ha, hvt, hvr⟩ := hE
      refine ⟨_, rfl, _, rfl, ?_⟩
      rw [show (!decide (V.ref a = V.non)) = true by rw [decide_eq_false (by intro z; cases z)]; rfl]
      refine iteT ⟨fun σ' H'' => H'' = H' ∧ σ' = [some vr, some (.str (nm x))] ∧ r.lookup x = some t, fun σ' H'' ⟨e1, e2, e3⟩ => ⟨r.length, Nat.lt_succ_self _, e1, r, vr, rfl, e2, hvr, e3⟩, ?_⟩
      refine ⟨_, rfl, a, _, _, _, rfl, rfl, ha.sq, at0, _, rfl, rfl, _, rfl, ?_⟩
      rw [nm_dec]
      by_cases e : y = x
      · rw [decide_eq_true e]
        subst e
        have e2 : ty = t := by simpa [List.lookup] using hl
        subst e2
        exact iteT ⟨_, rfl, a, _, _, _, rfl, rfl, ha.sq, at1, k _ hvt⟩
      · rw [decide_eq_false e]
        have e2 : r.lookup x = some t := by
          have z : (x == y) = false := by simpa using fun q => e q.symm
          simpa [List.lookup, z] using hl
        exact iteF ⟨_, rfl, a, _, _, _, rfl, rfl, ha.sq, at2, rfl, rfl, e2⟩
theorem ok_fits (T : Txt P w K mg A) : FnOk P w K mg base CX0 64 A.iF.a A.iF.d ["self", "number", "known"] (spFits K A) := by
  have GU := ok_Kunify (base := base) T 30
  refine T.tI.F.F.ok (k := 63) scIf (fun vs H Q E h => ?_) (fun cdv A0 outer s0 H vs Q E hr h => ?_)
  · obtain ⟨L, s, s', n, t, v, rfl, _⟩ := h
    rfl
  · obtain ⟨L, s, s', n, t, v, rfl, hA, hv, hs, k⟩ := h
    obtain ⟨tv, ht, htl⟩ := hA.ts
    unfold fits at hs
    obtain ⟨u, hu, hs⟩ := Option.bind_eq_some_iff.mp hs
    unfold typ at hu
    obtain ⟨o, ho, hu⟩ := Option.bind_eq_some_iff.mp hu
    have hu' : o = some u := hu
    subst hu'
    obtain ⟨vu, hvu, hu2⟩ := htl.get ho
    refine ⟨_, pss_one (ps_if (pt_not (pt_val (pe_meth (pe_fld (pv 0) rfl) T.tK.cl T.tK.U.m GU hr T.tK.U.b .nil pass0 (pa_cons (pe_ix ix_list (pe_fld (pv 0) rfl) (pv 1) (fun _ _ => rfl)) (pa_cons (pv 2) pa_nil))))) (pss_one ps_never) pss_nil), ?_⟩
    refine ⟨_, rfl, _, _, _, _, _, rfl, hA.oI, T.tI.cl, T.tI.nk, fIk _ _ _ _ _, _, _, _, rfl, hA.oK, fK0 _ _ (by decide +kernel), _, rfl, _, _, _, _, _, rfl, hA.oI, T.tI.cl, T.tI.nt, fIt _ _ _ _ _, _, rfl, L.lt, tv, _, vu, rfl, rfl, SqL.of ht, atI_nat hvu, _, rfl, L, s, s', u, t, vu, v, rfl, hA, hu2, hv, hs, fun H1 k1 A1 => ?_⟩
    exact ⟨_, rfl, iteF (k _ k1 A1)⟩
end
end K9
/-! Inferrer.composed. -/
namespace K9
open PySem L2
def hn : Hd → Str
  | .call => "call" | .pair => "pair" | .fst => "fst" | .not => "not"
def spComposed (K : PySem.W.Frag) (A : Adr) : Sp := fun vs H Q _ => ∃ (L : Lay) (s s' : S) (h : Hd) (inner : List Nat) (li : Addr) (n : Nat) (t : Ty), vs = [.ref L.inf, .str (hn h), .ref li, .int (n : Nat)] ∧ H li = some (.lst (vN inner)) ∧ li ∉ L.foot ∧ At K A.toCl L H s ∧ composed h inner n s = some (t, s') ∧
  ∀ H' v, Kp L H H' → At K A.toCl L H' s' → TyAt K H' t v → Q v H'
section
variable {P : Program} {w : World} {K : PySem.W.Frag} {mg : Str → Option Value} {base : Heap} {A : Adr}
abbrev NC : List Str := ["self", "head", "inner", "number", "types", "answer", "row", "pair", "part"]
theorem scIc : FnScope NC ["self", "head", "inner", "number"] (defScope sIcomposed) := ⟨rfl, rfl, rfl, by decide +kernel, rfl, by decide +kernel, by decide +kernel⟩
theorem composed_typ {h : Hd} {inner : List Nat} {n : Nat} {s s' : S} {t : Ty} (e : composed h inner n s = some (t, s')) : inner.length ≤ 2 ∧ ∀ m ∈ inner, ∃ u, typ s m = some u := by
  unfold composed at e
  split at e
  · rename_i m m'
    obtain ⟨a, ha, e⟩ := Option.bind_eq_some_iff.mp e
    obtain ⟨b, hb, e⟩ := Option.bind_eq_some_iff.mp e
    refine ⟨by simp, fun x hx => ?_⟩
    rcases List.mem_cons.mp hx with rfl | hx
    · exact ⟨a, ha⟩
    · rw [List.mem_singleton.mp hx]; exact ⟨b, hb⟩
  · rename_i m m'
    obtain ⟨a, ha, e⟩ := Option.bind_eq_some_iff.mp e
    obtain ⟨b, hb, e⟩ := Option.bind_eq_some_iff.mp e
    refine ⟨by simp, fun x hx => ?_⟩
    rcases List.mem_cons.mp hx with rfl | hx
    · exact ⟨a, ha⟩
    · rw [List.mem_singleton.mp hx]; exact ⟨b, hb⟩
  · rename_i m
    obtain ⟨a, ha, e⟩ := Option.bind_eq_some_iff.mp e
    exact ⟨by simp, fun x hx => by rw [List.mem_singleton.mp hx]; exact ⟨a, ha⟩⟩
  · rename_i m
    obtain ⟨a, ha, e⟩ := Option.bind_eq_some_iff.mp e
    exact ⟨by simp, fun x hx => by rw [List.mem_singleton.mp hx]; exact ⟨a, ha⟩⟩
  · cases e
theorem typ_at {C : Cl} {L : Lay} {H : Hp} {s : S} {m : Nat} {u : Ty} (hA : At K C L H s) (h : typ s m = some u) : ∃ tv v, H L.lt = some (.lst tv) ∧ tv[m]? = some v ∧ TyAt K H u v := by
  obtain ⟨tv, ht, htl⟩ := hA.ts
  unfold typ at h
  obtain ⟨o, ho, hu⟩ := Option.bind_eq_some_iff.mp h
  have hu' : o = some u := hu
  subst hu'
  obtain ⟨v, hv, hu2⟩ := htl.get ho
  exact ⟨tv, v, ht, hv, hu2⟩
theorem All2.len2 {α β : Type} {F : α → β → Prop} {a b : α} {bs : List β} (h : All2 F [a, b] bs) : ∃ x y, bs = [x, y] ∧ F a x ∧ F b y := by
  cases h with
  | cons h1 r =>
    cases r with
    | cons h2 r =>
      cases r
      exact ⟨_, _, rfl, h1, h2⟩
theorem All2.len1 {α β : Type} {F : α → β → Prop} {a : α} {bs : List β} (h : All2 F [a] bs) : ∃ x, bs = [x] ∧ F a x := by
  cases h with
  | cons h1 r =>
    cases r
    exact ⟨_, rfl, h1⟩
theorem comp2 {h : Hd} {inner : List Nat} {n : Nat} {s : S} {r : Ty × S} (hh : h = .call ∨ h = .pair) (e : composed h inner n s = some r) : ∃ m m', inner = [m, m'] := by
  match inner, e with
  | [m, m'], _ => exact ⟨m, m', rfl⟩
  | [], e => rcases hh with rfl | rfl <;> cases e
  | [_], e => rcases hh with rfl | rfl <;> cases e
  | _ :: _ :: _ :: _, e => rcases hh with rfl | rfl <;> cases e
theorem comp1 {h : Hd} {inner : List Nat} {n : Nat} {s : S} {r : Ty × S} (hh : h = .fst ∨ h = .not) (e : composed h inner n s = some r) : ∃ m, inner = [m] := by
  match inner, e with
  | [m], _ => exact ⟨m, rfl⟩
  | [], e => rcases hh with rfl | rfl <;> cases e
  | [_, _], e => rcases hh with rfl | rfl <;> cases e
  | _ :: _ :: _ :: _, e => rcases hh with rfl | rfl <;> cases e
theorem ok_composed (T : Txt P w K mg A) : FnOk P w K mg base CX0 65 A.iC.a A.iC.d ["self", "head", "inner", "number"] (spComposed K A) := by
  have GF := (ok_fits (base := base) T)
  have GK := (ok_Kfresh (base := base) T).mono (show 1 ≤ 64 by omega)
  have GR := (ok_Rfresh (base := base) T).mono (show 1 ≤ 64 by omega)
  have GW := (ok_Rflow (base := base) T).mono (show 1 ≤ 64 by omega)
  refine T.tI.C.F.ok (k := 64) scIc (fun vs H Q E h => ?_) (fun cdv A0 outer s0 H vs Q E hr h => ?_)
  · obtain ⟨L, s, s', hh, inner, li, n, t, rfl, _⟩ := h
    rfl
  · obtain ⟨L, s, s', hh, inner, li, n, t, rfl, hli, hlf, hA, hs, q⟩ := h
    obtain ⟨hlen, htyp⟩ := composed_typ hs
    refine ⟨_, pss_cons (ps_setLc (i := 4) (own := [("part", 8)]) (g := gName 8) (tt := tYes) (te := tOp (rIxL K) (tFld K (tVar 0) "types") (tVar 8)) rfl scIc.nd rfl rfl (sw_true rfl rfl rfl (by decide +kernel)) (pi_list (pv 2)) (blkOk_by (N := NC) (sc := defScope sIcomposed) (by decide +kernel))
        (fun _ _ _ _ _ => pg_name (i := 8) scIc.nd rfl (Or.inl rfl)) (fun _ _ _ _ _ => pts_nil) (fun _ _ _ _ _ => pe_ix ix_list (pe_fld (pv 0) rfl) (pv 8) (fun _ _ => rfl)))
      (pss_cons (ps_if (pt_cmpR op_eq (pv 1) pe_str (nomark _))
        (pss_cons (ps_set (i := 5) scIc.nd rfl (Or.inl rfl) (pe_meth0 (pe_fld (pv 0) rfl) T.tK.cl T.tK.F.m GK hr T.tK.F.b .nil pass0))
        (pss_cons (ps_set (i := 6) scIc.nd rfl (Or.inl rfl) (pe_meth0 (pe_fld (pv 0) rfl) T.tR.cl T.tR.F.m GR hr T.tR.F.b .nil pass0))
        (pss_cons (ps_expr (pe_meth (pe_fld (pv 0) rfl) T.tR.cl T.tR.W.m GW hr T.tR.W.b .nil pass0 (pa_cons (pv 6) (pa_cons (pe_ix ix_list (pe_fld (pv 0) rfl) (pv 3) (fun _ _ => rfl)) (pa_cons (pe_lst pa_nil) pa_nil)))))
        (pss_cons (ps_expr (pe_meth (pv 0) T.tI.cl T.tI.F.m GF hr T.tI.F.b .nil pass0 (pa_cons (pe_ix ix_list (pv 2) pe_int (fun _ _ => rfl)) (pa_cons (pe_tup (pa_cons pe_str (pa_cons (pe_ix ix_list (pv 4) pe_int (fun _ _ => rfl)) (pa_cons (pv 6) (pa_cons (pv 5) pa_nil))))) pa_nil))))
        (pss_one (ps_ret (pv 5))))))) pss_nil)
      (pss_cons (ps_if (pt_cmpR op_eq (pv 1) pe_str (nomark _)) pss_never pss_nil)
      (pss_cons (ps_if (pt_cmpR op_eq (pv 1) pe_str (nomark _)) (pss_one (ps_ret (pe_tup (pa_cons pe_str (pa_cons (pe_ix ix_list (pv 4) pe_int (fun _ _ => rfl)) (pa_cons (pe_ix ix_list (pv 4) pe_int (fun _ _ => rfl)) pa_nil)))))) pss_nil)
      (pss_cons (ps_if (PW.pt (pw_or (pt_cmpR op_eq (pv 1) pe_str (nomark _)) (pw_or1 (pt_cmpR op_eq (pv 1) pe_str (nomark _)))))
        (pss_cons (ps_set (i := 7) scIc.nd rfl (Or.inl rfl) (pe_tup (pa_cons pe_str (pa_cons (pe_meth0 (pe_fld (pv 0) rfl) T.tK.cl T.tK.F.m GK hr T.tK.F.b .nil pass0) (pa_cons (pe_meth0 (pe_fld (pv 0) rfl) T.tK.cl T.tK.F.m GK hr T.tK.F.b .nil pass0) pa_nil)))))
        (pss_cons (ps_expr (pe_meth (pv 0) T.tI.cl T.tI.F.m GF hr T.tI.F.b .nil pass0 (pa_cons (pe_ix ix_list (pv 2) pe_int (fun _ _ => rfl)) (pa_cons (pv 7) pa_nil))))
        (pss_one (ps_ret (pe_ix ix_tup (pv 7) (pe_op op_add pe_int (pe_callTy call_int1 (by rfl) T.tB.int (by decide +kernel) (pa_cons (pe_cmpR op_eq (pv 1) pe_str (nomark _)) pa_nil))) (fun _ _ => rfl)))))) pss_nil)
      (pss_cons (ps_if (pt_cmpR op_eq (pv 1) pe_str (nomark _))
        (pss_cons (ps_expr (pe_meth (pv 0) T.tI.cl T.tI.F.m GF hr T.tI.F.b .nil pass0 (pa_cons (pe_ix ix_list (pv 2) pe_int (fun _ _ => rfl)) (pa_cons (pe_glob (v := V.ref A.aB) rfl T.tI.b.1 rfl) pa_nil))))
        (pss_one (ps_ret (pe_glob (v := V.ref A.aB) rfl T.tI.b.1 rfl)))) pss_nil)
      pss_never))))), ?_⟩
    refine ⟨_, rfl, li, rfl, ⟨_, SqL.of hli⟩, fun D hD => lc_list (K := K) (a := li) (xs := vN inner) (fun i H2 => ∃ acc, H2 = upd H D (.lst acc) ∧ All2 (fun m v => ∃ u, typ s m = some u ∧ TyAt K H u v) (inner.take i) acc) ⟨[], rfl, .nil⟩
      (fun i H2 _ ⟨acc, e, _⟩ => by rw [e]; exact SqL.of (same_new hD _ _ _ hli)) ?_ ?_⟩
    · rintro i x H2 hi ⟨acc, rfl, hacc⟩
      obtain ⟨m, hm, rfl⟩ : ∃ m, inner[i]? = some m ∧ x = V.int (m : Nat) := by
        rw [List.getElem?_map] at hi
        cases e : inner[i]? with
        | none => rw [e] at hi; cases hi
        | some m => rw [e] at hi; exact ⟨m, rfl, (Option.some.inj hi).symm⟩
      obtain ⟨u, hu⟩ := htyp m (List.mem_of_getElem? hm)
      obtain ⟨tv, v, ht, hv, hu2⟩ := typ_at hA hu
      have s1 := same_new hD (.lst acc)
      have A1 := hA.same s1
      refine ⟨rfl, ⟨_, rfl, _, _, _, _, _, rfl, A1.oI, T.tI.cl, T.tI.nt, fIt _ _ _ _ _, _, rfl, L.lt, tv, _, v, rfl, rfl, SqL.of (s1 _ _ ht), atI_nat hv, acc, upd_same, ?_, acc ++ [v], upd_upd, ?_⟩⟩
      · have e1 := hacc.length
        rw [List.length_take] at e1
        exact small1000 (by omega)
      · have e1 : inner.take (i + 1) = inner.take i ++ [m] := by
          rw [List.take_succ, hm]
          rfl
        rw [e1]
        exact hacc.snoc ⟨u, hu, hu2⟩
    · rintro H2 ⟨acc, rfl, hacc⟩
      rw [vN_length, List.take_length] at hacc
      have s1 := same_new hD (.lst acc)
      have A1 := hA.same s1
      have hD1 : (upd H D (.lst acc)) D = some (.lst acc) := upd_same
      have Df := hA.none_foot hD
      have hli1 := s1 _ _ hli
      have acc1 : All2 (fun m v => ∃ u, typ s m = some u ∧ TyAt K (upd H D (.lst acc)) u v) inner acc := hacc.imp fun m v ⟨u, h1, h2⟩ => ⟨u, h1, h2.ext (sExt s1)⟩
      have k1 := Kp.of (L := L) s1
      generalize hH1 : upd H D (.lst acc) = H1 at A1 hD1 hli1 acc1 k1
      cases hh with
      | call =>
        refine ⟨_, rfl, rfl, _, rfl, ?_⟩
        rw [show decide (V.str (hn .call) = V.str "call") = true by decide +kernel]
        refine iteT ?_
        obtain ⟨m, m', rfl⟩ := comp2 (.inl rfl) hs
        · unfold composed at hs
          dsimp only at hs
          obtain ⟨ta, hta, hs⟩ := Option.bind_eq_some_iff.mp hs
          obtain ⟨tb, htb, hs⟩ := Option.bind_eq_some_iff.mp hs
          obtain ⟨s2, hs2, hs⟩ := Option.bind_eq_some_iff.mp hs
          obtain ⟨s3, hs3, hs⟩ := Option.bind_eq_some_iff.mp hs
          obtain ⟨b, hb, hs⟩ := Option.bind_eq_some_iff.mp hs
          obtain ⟨s4, hs4, hs⟩ := Option.bind_eq_some_iff.mp hs
          obtain ⟨s5, hs5, hs⟩ := Option.bind_eq_some_iff.mp hs
          cases hs
          obtain ⟨va, vb, rfl, ⟨ua, hua, hva⟩, ⟨ub, hub, hvb⟩⟩ := acc1.len2
          have e1 : tb = ub := Option.some.inj (htb.symm.trans hub)
          subst e1
          obtain ⟨_, e2⟩ := fresh_some hs2
          refine ⟨_, rfl, _, _, _, _, _, rfl, A1.oI, T.tI.cl, T.tI.nk, fIk _ _ _ _ _, _, _, _, rfl, A1.oK, fK0 _ _ (by decide +kernel), L, s, s2, rfl, A1, hs2, fun H2 vr k2 A2 hvr => ?_⟩
          obtain ⟨_, e3⟩ := freshR_some hs3
          refine ⟨_, rfl, _, _, _, _, _, rfl, A2.oI, T.tI.cl, T.tI.nr, fIr _ _ _ _ _, _, _, _, rfl, A2.oR, fR0 _ _ _ (by decide +kernel), L, s2, s3, rfl, A2, hs3, fun H3 k3 A3 => ?_⟩
          refine ⟨_, rfl, _, _, _, _, _, rfl, A3.oI, T.tI.cl, T.tI.nr, fIr _ _ _ _ _, _, _, _, rfl, A3.oR, fR0 _ _ _ (by decide +kernel), _, rfl, _, rfl, _, _, _, _, _, rfl, A3.oI, T.tI.cl, T.tI.no, fIo _ _ _ _ _, _, rfl, L.lo, _, _, _, rfl, rfl, SqL.of A3.own, atI_vN hb, (by show 0 ≤ sizeLine; decide), fun w0 hw0 => ?_⟩
          have s3' := same_new hw0 (.lst [])
          refine ⟨L, s3, s4, s2.links.length, b, w0, [], rfl, SqL.of upd_same, A3.same s3', hs4, fun H4 k4 A4 => ?_⟩
          have k14 := (k2.trans k3).trans ((Kp.of s3').trans k4)
          have hli4 := k14 _ _ hli1 hlf
          have hD4 := k14 _ _ hD1 Df
          have e14 := A1.ext k14
          have e24 := A2.ext (k3.trans ((Kp.of s3').trans k4))
          refine ⟨_, rfl, _, _, _, rfl, A4.oI, fI0 _ _ _ _ _ (by decide +kernel), _, rfl, li, _, _, _, rfl, rfl, SqL.of hli4, atI_vN (i := 0) rfl, _, rfl, D, _, _, _, rfl, rfl, SqL.of hD4, at1, _, rfl, _, rfl, (by show 4 ≤ sizeLine; decide), fun p hp => ?_⟩
          have s5' := same_new hp (.tup [.str "fun", vb, .int (s2.links.length : Nat), vr])
          have A5 := A4.same s5'
          refine ⟨L, s4, s', m, .fn tb s2.links.length (.var s.ms.length), .ref p, rfl, A5, ⟨p, vb, vr, rfl, Tp.of upd_same, (hvb.ext e14).ext (sExt s5'), (hvr.ext e24).ext (sExt s5')⟩, hs5, fun H6 k6 A6 => ?_⟩
          exact ⟨_, rfl, q _ _ (k1.trans (k14.trans ((Kp.of s5').trans k6))) A6 ((hvr.ext e24).ext ((sExt s5').trans (A5.ext k6)))⟩
      | pair =>
        refine ⟨_, rfl, rfl, _, rfl, ?_⟩
        rw [show decide (V.str (hn .pair) = V.str "call") = false by decide +kernel]
        refine iteF ⟨_, rfl, rfl, _, rfl, ?_⟩
        rw [show decide (V.str (hn .pair) = V.str "if") = false by decide +kernel]
        refine iteF ⟨_, rfl, rfl, _, rfl, ?_⟩
        rw [show decide (V.str (hn .pair) = V.str "pair") = true by decide +kernel]
        refine iteT ?_
        obtain ⟨m, m', rfl⟩ := comp2 (.inr rfl) hs
        · unfold composed at hs
          dsimp only at hs
          obtain ⟨ta, hta, hs⟩ := Option.bind_eq_some_iff.mp hs
          obtain ⟨tb, htb, hs⟩ := Option.bind_eq_some_iff.mp hs
          cases hs
          obtain ⟨va, vb, rfl, ⟨ua, hua, hva⟩, ⟨ub, hub, hvb⟩⟩ := acc1.len2
          have e1 : tb = ub := Option.some.inj (htb.symm.trans hub)
          subst e1
          have e2 : ta = ua := Option.some.inj (hta.symm.trans hua)
          subst e2
          refine ⟨_, rfl, D, _, _, _, rfl, rfl, SqL.of hD1, at0, _, rfl, D, _, _, _, rfl, rfl, SqL.of hD1, at1, (by show 3 ≤ sizeLine; decide), fun p hp => ?_⟩
          have s5' := same_new hp (.tup [.str "pair", va, vb])
          exact q _ _ (k1.trans (Kp.of s5')) (A1.same s5') ⟨p, va, vb, rfl, Tp.of upd_same, hva.ext (sExt s5'), hvb.ext (sExt s5')⟩
      | fst =>
        refine ⟨_, rfl, rfl, _, rfl, ?_⟩
        rw [show decide (V.str (hn .fst) = V.str "call") = false by decide +kernel]
        refine iteF ⟨_, rfl, rfl, _, rfl, ?_⟩
        rw [show decide (V.str (hn .fst) = V.str "if") = false by decide +kernel]
        refine iteF ⟨_, rfl, rfl, _, rfl, ?_⟩
        rw [show decide (V.str (hn .fst) = V.str "pair") = false by decide +kernel]
        refine iteF ⟨_, rfl, rfl, _, rfl, ?_⟩
        rw [show decide (V.str (hn .fst) = V.str "fst") = true by decide +kernel]
        refine iteT (iteT ?_)
        obtain ⟨m, rfl⟩ := comp1 (.inl rfl) hs
        · unfold composed at hs
          dsimp only at hs
          obtain ⟨ta, hta, hs⟩ := Option.bind_eq_some_iff.mp hs
          obtain ⟨s2, hs2, hs⟩ := Option.bind_eq_some_iff.mp hs
          obtain ⟨s3, hs3, hs⟩ := Option.bind_eq_some_iff.mp hs
          obtain ⟨s4, hs4, hs⟩ := Option.bind_eq_some_iff.mp hs
          cases hs
          refine ⟨_, rfl, _, _, _, _, _, rfl, A1.oI, T.tI.cl, T.tI.nk, fIk _ _ _ _ _, _, _, _, rfl, A1.oK, fK0 _ _ (by decide +kernel), L, s, s2, rfl, A1, hs2, fun H2 v1 k2 A2 hv1 => ?_⟩
          refine ⟨_, rfl, _, _, _, _, _, rfl, A2.oI, T.tI.cl, T.tI.nk, fIk _ _ _ _ _, _, _, _, rfl, A2.oK, fK0 _ _ (by decide +kernel), L, s2, s3, rfl, A2, hs3, fun H3 v2 k3 A3 hv2 => ?_⟩
          refine ⟨(by show 3 ≤ sizeLine; decide), fun p hp => ?_⟩
          have s5' := same_new hp (.tup [.str "pair", v1, v2])
          have A5 := A3.same s5'
          have k15 := (k2.trans k3).trans (Kp.of s5')
          have hli5 := k15 _ _ hli1 hlf
          have hp5 : (upd H3 p (.tup [.str "pair", v1, v2])) p = some (.tup [.str "pair", v1, v2]) := upd_same
          have tv1 := (hv1.ext (A2.ext k3)).ext (sExt s5')
          refine ⟨_, rfl, _, _, _, rfl, A5.oI, fI0 _ _ _ _ _ (by decide +kernel), _, rfl, li, _, _, _, rfl, rfl, SqL.of hli5, atI_vN (i := 0) rfl, _, rfl, L, s3, s', m, .pair (.var s.ms.length) (.var s2.ms.length), .ref p, rfl, A5, ⟨p, v1, v2, rfl, Tp.of upd_same, tv1, hv2.ext (sExt s5')⟩, hs4, fun H6 k6 A6 => ?_⟩
          have e56 := A5.ext k6
          refine ⟨_, rfl, _, rfl, rfl, .inr ⟨_, rfl, _, _, rfl, rfl, ?_⟩⟩
          rw [show decide (V.str (hn .fst) = V.str "snd") = false by decide +kernel]
          exact ⟨p, _, _, _, rfl, rfl, SqT.of (e56 _ _ hp5), at1, q _ _ (k1.trans (k15.trans k6)) A6 (tv1.ext e56)⟩
      | not =>
        refine ⟨_, rfl, rfl, _, rfl, ?_⟩
        rw [show decide (V.str (hn .not) = V.str "call") = false by decide +kernel]
        refine iteF ⟨_, rfl, rfl, _, rfl, ?_⟩
        rw [show decide (V.str (hn .not) = V.str "if") = false by decide +kernel]
        refine iteF ⟨_, rfl, rfl, _, rfl, ?_⟩
        rw [show decide (V.str (hn .not) = V.str "pair") = false by decide +kernel]
        refine iteF ⟨_, rfl, rfl, _, rfl, ?_⟩
        rw [show decide (V.str (hn .not) = V.str "fst") = false by decide +kernel]
        refine iteF ⟨_, rfl, rfl, _, rfl, ?_⟩
        rw [show decide (V.str (hn .not) = V.str "snd") = false by decide +kernel]
        refine iteF ⟨_, rfl, rfl, _, rfl, ?_⟩
        rw [show decide (V.str (hn .not) = V.str "not") = true by decide +kernel]
        refine iteT ?_
        obtain ⟨m, rfl⟩ := comp1 (.inr rfl) hs
        · unfold composed at hs
          dsimp only at hs
          obtain ⟨ta, hta, hs⟩ := Option.bind_eq_some_iff.mp hs
          obtain ⟨s2, hs2, hs⟩ := Option.bind_eq_some_iff.mp hs
          cases hs
          refine ⟨_, rfl, _, _, _, rfl, A1.oI, fI0 _ _ _ _ _ (by decide +kernel), _, rfl, li, _, _, _, rfl, rfl, SqL.of hli1, atI_vN (i := 0) rfl, L, s, s', m, .bool, .ref A.aB, rfl, A1, ⟨_, rfl, .inr T.tI.b.2⟩, hs2, fun H6 k6 A6 => ?_⟩
          exact q _ _ (k1.trans k6) A6 ⟨_, rfl, .inr T.tI.b.2⟩
end
end K9
/-! Inferrer.visit, part, judged, function: one induction. -/
namespace K9
open PySem L2
/-- what is wanted where Unbounded("types") leaves -/
def Rz (A : Adr) (L : Lay) (H : Hp) (E : XK) : Prop := ∀ H' d, Kp L H H' → H' d = some (.xd [("name", .str "types")]) → E (.ref A.cU) (some d) H'
theorem Rz.kp {A : Adr} {L : Lay} {H H1 : Hp} {E : XK} (h : Rz A L H E) (k : Kp L H H1) : Rz A L H1 E := fun H' d k' e => h H' d (k.trans k') e
/-- the three ends of a mirror's run -/
def Ends3 {α : Type} (A : Adr) (L : Lay) (H : Hp) (E : XK) (x : R α) (ok : α → Hp → Prop) : Prop :=
  match x with
  | none => False
  | some none => Rz A L H E
  | some (some a) => ∀ H', Kp L H H' → ok a H'
theorem Ends3.bind {α β : Type} {A : Adr} {L : Lay} {H : Hp} {E : XK} {x : R α} {f : α → R β} {ok : β → Hp → Prop} (h : Ends3 A L H E (R.bind x f) ok) :
    Ends3 A L H E x (fun a H' => Ends3 A L H' E (f a) ok) := by
  match x, h with
  | none, h => exact h
  | some none, h => exact h
  | some (some a), h =>
    intro H' k
    have h' : Ends3 A L H E (f a) ok := h
    show Ends3 A L H' E (f a) ok
    match f a, h' with
    | none, h' => exact h'
    | some none, h' => exact Rz.kp h' k
    | some (some b), h' => exact fun H2 k2 => h' H2 (k.trans k2)
theorem Ends3.lift {α β : Type} {A : Adr} {L : Lay} {H : Hp} {E : XK} {x : Option α} {f : α → R β} {ok : β → Hp → Prop} (h : Ends3 A L H E (lift x f) ok) : ∃ a, x = some a ∧ Ends3 A L H E (f a) ok := by
  match x, h with
  | none, h => exact absurd h (fun z => z)
  | some a, h => exact ⟨a, rfl, h⟩
theorem Ends3.kp {α : Type} {A : Adr} {L : Lay} {H H1 : Hp} {E : XK} {x : R α} {ok : α → Hp → Prop} (h : Ends3 A L H E x ok) (k : Kp L H H1) : Ends3 A L H1 E x ok := by
  match x, h with
  | none, h => exact h
  | some none, h => exact Rz.kp h k
  | some (some a), h => exact fun H2 k2 => h H2 (k.trans k2)
def spVisit (K : PySem.W.Frag) (A : Adr) (n : Nat) : Sp := fun vs H Q E => ∃ (L : Lay) (s : S) (e : Exp) (env : Ev) (ve vv : V), vs = [.ref L.inf, ve, vv] ∧ At K A.toCl L H s ∧ ExpAt K H e ve ∧ EvAt K H env vv ∧ e.dep ≤ n ∧
  Ends3 A L H E (visitBy (judge e) env s) (fun s' H' => At K A.toCl L H' s' → Q (.int (s.ts.length : Nat)) H')
def spPart (K : PySem.W.Frag) (A : Adr) (n : Nat) : Sp := fun vs H Q E => ∃ (L : Lay) (s : S) (e : Exp) (env : Ev) (ve vv : V) (m : Nat), vs = [.ref L.inf, ve, vv, .int (m : Nat)] ∧ At K A.toCl L H s ∧ ExpAt K H e ve ∧ EvAt K H env vv ∧ e.dep ≤ n ∧
  Ends3 A L H E (partBy (judge e) env m s) (fun s' H' => At K A.toCl L H' s' → Q (.int (s.ts.length : Nat)) H')
def spJudged (K : PySem.W.Frag) (A : Adr) (n : Nat) : Sp := fun vs H Q E => ∃ (L : Lay) (s : S) (e : Exp) (env : Ev) (ve vv : V) (m : Nat), vs = [.ref L.inf, ve, vv, .int (m : Nat)] ∧ At K A.toCl L H s ∧ ExpAt K H e ve ∧ EvAt K H env vv ∧ e.dep ≤ n ∧
  Ends3 A L H E (judge e env m s) (fun p H' => ∀ v, At K A.toCl L H' p.2 → TyAt K H' p.1 v → Q v H')
def spFunction (K : PySem.W.Frag) (A : Adr) (n : Nat) : Sp := fun vs H Q E => ∃ (L : Lay) (s : S) (x : Nm) (e : Exp) (env : Ev) (ve vv : V), vs = [.ref L.inf, ve, vv] ∧ At K A.toCl L H s ∧ ExpAt K H (.fn x e) ve ∧ EvAt K H env vv ∧ e.dep + 1 ≤ n ∧
  Ends3 A L H E (function (judge e) x env s) (fun p H' => ∀ v, At K A.toCl L H' p.2 → TyAt K H' p.1 v → Q v H')
section
variable {P : Program} {w : World} {K : PySem.W.Frag} {mg : Str → Option Value} {base : Heap} {A : Adr}
theorem scIv : FnScope ["self", "expression", "env", "number", "known"] ["self", "expression", "env"] (defScope sIvisit) := ⟨rfl, rfl, rfl, by decide +kernel, rfl, by decide +kernel, by decide +kernel⟩
theorem scIp : FnScope ["self", "expression", "env", "number", "inner"] ["self", "expression", "env", "number"] (defScope sIpart) := ⟨rfl, rfl, rfl, by decide +kernel, rfl, by decide +kernel, by decide +kernel⟩
abbrev NJ : List Str := ["self", "expression", "env", "number", "head", "value", "inner", "part"]
theorem scIj : FnScope NJ ["self", "expression", "env", "number"] (defScope sIjudged) := ⟨rfl, rfl, rfl, by decide +kernel, rfl, by decide +kernel, by decide +kernel⟩
theorem scIg : FnScope ["self", "expression", "env", "given", "answer", "known", "body"] ["self", "expression", "env"] (defScope sIfunction) := ⟨rfl, rfl, rfl, by decide +kernel, rfl, by decide +kernel, by decide +kernel⟩
theorem enter_some {s s' : S} (h : enter s = some s') : s.ts.length < 1000 ∧ s.own.length < 1000 ∧ s.links.length < 1000 ∧ s' = { s with ts := s.ts ++ [none], own := s.own ++ [s.links.length], links := s.links ++ [s.links.length] } := by
  unfold enter at h
  split at h
  · rename_i hl
    obtain ⟨s1, h1, h2⟩ := Option.bind_eq_some_iff.mp h
    obtain ⟨h3, rfl⟩ := freshR_some h1
    exact ⟨hl.1, hl.2, h3, (Option.some.inj h2).symm⟩
  · cases h
/-- visit, from judged -/
theorem ok_visit (T : Txt P w K mg A) {n k : Nat} (hk : 64 ≤ k) (GJ : FnOk P w K mg base (L2.CX P w) k A.iJ.a A.iJ.d ["self", "expression", "env", "number"] (spJudged K A n)) :
    FnOk P w K mg base (L2.CX P w) (k + 1) A.iV.a A.iV.d ["self", "expression", "env"] (spVisit K A n) := by
  have GR := (ok_Rfresh (base := base) T).mono (show 1 ≤ k by omega)
  have GZ := (ok_Ksize (base := base) T 30).mono (show 31 ≤ k by omega)
  obtain ⟨tz, hz⟩ := T.tI.z
  refine T.tI.V.F.okX scIv (fun vs H Q E h => ?_) (fun cdv A0 outer s0 H vs Q E hr h => ?_)
  · obtain ⟨L, s, e, env, ve, vv, rfl, _⟩ := h
    rfl
  · obtain ⟨L, s, e, env, ve, vv, rfl, hA, he, hv, hd, h3⟩ := h
    refine ⟨_, pss_cons (ps_set (i := 3) scIv.nd rfl (Or.inl rfl) (pe_callB call_len_seq (by rfl) T.tB.len PySem.boot_len (pa_cons (pe_fld (pv 0) rfl) pa_nil)))
      (pss_cons (ps_expr (pe_bm PySem.F.plainAttrs_list PySem.F.slot_list_append PySem.F.type_list_append mt_append (pe_fld (pv 0) rfl) (pa_cons pe_non pa_nil)))
      (pss_cons (ps_expr (pe_bm PySem.F.plainAttrs_list PySem.F.slot_list_append PySem.F.type_list_append mt_append (pe_fld (pv 0) rfl) (pa_cons (pe_meth0 (pe_fld (pv 0) rfl) T.tR.cl T.tR.F.m GR hr T.tR.F.b .nil pass0) pa_nil)))
      (pss_cons (ps_set (i := 4) scIv.nd rfl (Or.inl rfl) (pe_meth (pv 0) T.tI.cl T.tI.J.m GJ hr T.tI.J.b .nil (passes_call (takes_of rfl rfl rfl rfl) (fun _ _ _ _ h => h)) (pa_cons (pv 1) (pa_cons (pv 2) (pa_cons (pv 3) pa_nil)))))
      (pss_cons (ps_asg (pv 4) (pg_sub (pe_fld (pv 0) rfl) (pv 3) set_list))
      (pss_cons (ps_if (pt_cmpR op_lt (pe_meth (pe_fld (pv 0) rfl) T.tK.cl T.tK.Z.m GZ hr T.tK.Z.b .nil pass0 (pa_cons (pv 4) (pa_cons (pe_glob (v := V.int 1000) rfl hz ⟨_, rfl⟩) pa_nil))) pe_int (nomark _))
        (pss_one (ps_raise rfl (takes_of rfl rfl rfl rfl) (pmk_sup T.tU (hr.mono (by omega)) rfl T.gU (pa_cons pe_str pa_nil)))) pss_nil)
      (pss_one (ps_ret (pv 3)))))))), ?_⟩
    unfold visitBy at h3
    obtain ⟨s1, hs1, h3⟩ := h3.lift
    obtain ⟨l1, l2, l3, rfl⟩ := enter_some hs1
    obtain ⟨tv, ht, htl⟩ := hA.ts
    refine ⟨_, rfl, _, _, _, _, _, rfl, hA.oI, T.tI.cl, T.tI.nt, fIt _ _ _ _ _, _, _, rfl, .inl (SqL.of ht), ?_⟩
    rw [htl.length]
    refine ⟨_, rfl, _, _, _, _, _, rfl, hA.oI, T.tI.cl, T.tI.nt, fIt _ _ _ _ _, tyL ht, _, _, _, rfl, rfl, ht, by rw [htl.length]; exact small9 l1, ?_⟩
    have a1 := hA.setTs (htl.snoc (a := none) (b := V.non) rfl)
    have k1 := hA.kp L.inT (.lst (tv ++ [.non]))
    refine ⟨_, rfl, _, _, _, _, _, rfl, a1.oI, T.tI.cl, T.tI.no, fIo _ _ _ _ _, tyL a1.own, _, rfl, _, _, _, _, _, rfl, a1.oI, T.tI.cl, T.tI.nr, fIr _ _ _ _ _, _, _, _, rfl, a1.oR, fR0 _ _ _ (by decide +kernel), L, _, _, rfl, a1, (by unfold freshR; rw [if_pos l3]), fun H2 k2 a2 => ?_⟩
    refine ⟨L.lo, _, _, rfl, rfl, a2.own, by rw [vN_length]; exact small9 l2, ?_⟩
    have a3 := a2.setOwn (s.own ++ [s.links.length])
    have k3 := a2.kp L.inO (.lst (vN (s.own ++ [s.links.length])))
    rw [← vN_snoc] at a3 k3
    have k13 := k1.trans (k2.trans k3)
    have e13 := hA.ext k13
    refine ⟨_, rfl, _, _, _, rfl, a3.oI, fI0 _ _ _ _ _ (by decide +kernel), _, rfl, _, rfl, _, rfl, L, _, e, env, ve, vv, s.ts.length, rfl, a3, he.ext e13, hv.ext e13, hd, ?_⟩
    have h4 := (h3.bind).kp k13
    generalize judge e env s.ts.length _ = x at h4 ⊢
    match x, h4 with
    | none, h4 => exact h4
    | some none, h4 => exact h4
    | some (some (t, s2)), h4 =>
      intro H4 k4 v a4 hv4
      have h5 := h4 H4 k4
      unfold leave at h5
      dsimp only at h5
      by_cases hlt : s.ts.length < s2.ts.length
      · rw [if_pos hlt] at h5
        obtain ⟨kz, hkz, h6⟩ := h5.lift
        obtain ⟨tv4, ht4, htl4⟩ := a4.ts
        refine ⟨_, rfl, _, rfl, _, _, _, _, _, rfl, a4.oI, T.tI.cl, T.tI.nt, fIt _ _ _ _ _, _, rfl, L.lt, tv4, _, s.ts.length, rfl, rfl, ht4, ixN_nat (by rw [htl4.length]; exact hlt), ?_⟩
        have a5 := a4.setTs (htl4.set (a := some t) (b := v) hv4 s.ts.length)
        have k5 := a4.kp L.inT (.lst (tv4.set s.ts.length v))
        have hv5 := hv4.ext (a4.ext k5)
        refine ⟨_, rfl, _, _, _, _, _, rfl, a5.oI, T.tI.cl, T.tI.nk, fIk _ _ _ _ _, _, _, _, rfl, a5.oK, fK0 _ _ (by decide +kernel), _, rfl, L, _, t, kz, 1000, v, rfl, a5, hv5, hkz, fun H6 s6 => ?_⟩
        refine ⟨_, _, rfl, rfl, _, rfl, ?_⟩
        by_cases hc : kz ≤ 1000
        · rw [if_pos hc] at h6
          have e1 : decide (left 1000 kz < 0) = false := by
            unfold left
            rw [if_pos hc]
            exact decide_eq_false (by omega)
          rw [e1]
          exact iteF ⟨_, rfl, h6 H6 (k5.trans (Kp.of s6)) (a5.same s6)⟩
        · rw [if_neg hc] at h6
          have e1 : decide (left 1000 kz < 0) = true := by
            unfold left
            rw [if_neg hc]
            decide
          rw [e1]
          refine iteT ⟨_, rfl, fun d hd => ?_⟩
          exact h6 _ d (k5.trans ((Kp.of s6).trans (Kp.of (same_new hd _)))) upd_same
      · rw [if_neg hlt] at h5
        exact absurd h5 (fun z => z)
end
end K9
/-! Inferrer.part, function, judged; the induction. -/
namespace K9
open PySem L2
section
variable {P : Program} {w : World} {K : PySem.W.Frag} {mg : Str → Option Value} {base : Heap} {A : Adr}
theorem ok_part (T : Txt P w K mg A) {n k : Nat} (hk : 64 ≤ k) (GV : FnOk P w K mg base (L2.CX P w) k A.iV.a A.iV.d ["self", "expression", "env"] (spVisit K A n)) :
    FnOk P w K mg base (L2.CX P w) (k + 1) A.iP.a A.iP.d ["self", "expression", "env", "number"] (spPart K A n) := by
  have GW := (ok_Rflow (base := base) T).mono (show 1 ≤ k by omega)
  refine T.tI.P.F.okX scIp (fun vs H Q E h => ?_) (fun cdv A0 outer s0 H vs Q E hr h => ?_)
  · obtain ⟨L, s, e, env, ve, vv, m, rfl, _⟩ := h
    rfl
  · obtain ⟨L, s, e, env, ve, vv, m, rfl, hA, he, hv, hd, h3⟩ := h
    refine ⟨_, pss_cons (ps_set (i := 4) scIp.nd rfl (Or.inl rfl) (pe_meth (pv 0) T.tI.cl T.tI.V.m GV hr T.tI.V.b .nil (passes_call (takes_of rfl rfl rfl rfl) (fun _ _ _ _ h => h)) (pa_cons (pv 1) (pa_cons (pv 2) pa_nil))))
      (pss_cons (ps_expr (pe_meth (pe_fld (pv 0) rfl) T.tR.cl T.tR.W.m GW hr T.tR.W.b .nil pass0 (pa_cons (pe_ix ix_list (pe_fld (pv 0) rfl) (pv 4) (fun _ _ => rfl)) (pa_cons (pe_ix ix_list (pe_fld (pv 0) rfl) (pv 3) (fun _ _ => rfl)) (pa_cons (pe_lst pa_nil) pa_nil)))))
      (pss_one (ps_ret (pv 4)))), ?_⟩
    refine ⟨_, rfl, _, _, _, rfl, hA.oI, fI0 _ _ _ _ _ (by decide +kernel), _, rfl, _, rfl, L, s, e, env, ve, vv, rfl, hA, he, hv, hd, ?_⟩
    unfold partBy at h3
    have h4 := h3.bind
    generalize visitBy (judge e) env s = x at h4 ⊢
    match x, h4 with
    | none, h4 => exact h4
    | some none, h4 => exact h4
    | some (some s1), h4 =>
      intro H1 k1 A1
      have h5 := h4 H1 k1
      obtain ⟨a, ha, h5⟩ := h5.lift
      obtain ⟨b, hb, h5⟩ := h5.lift
      obtain ⟨s2, hs2, h5⟩ := h5.lift
      refine ⟨_, rfl, _, _, _, _, _, rfl, A1.oI, T.tI.cl, T.tI.nr, fIr _ _ _ _ _, _, _, _, rfl, A1.oR, fR0 _ _ _ (by decide +kernel), _, rfl, _, _, _, _, _, rfl, A1.oI, T.tI.cl, T.tI.no, fIo _ _ _ _ _, _, rfl, L.lo, _, _, _, rfl, rfl, SqL.of A1.own, atI_vN ha, _, rfl, _, _, _, _, _, rfl, A1.oI, T.tI.cl, T.tI.no, fIo _ _ _ _ _, _, rfl, L.lo, _, _, _, rfl, rfl, SqL.of A1.own, atI_vN hb, (by show 0 ≤ sizeLine; decide), fun w0 hw0 => ?_⟩
      have s3' := same_new hw0 (.lst [])
      refine ⟨L, s1, s2, a, b, w0, [], rfl, SqL.of upd_same, A1.same s3', hs2, fun H2 k2 A2 => ?_⟩
      exact ⟨_, rfl, h5 H2 ((Kp.of s3').trans k2) A2⟩
theorem ok_function (T : Txt P w K mg A) {n k : Nat} (hk : 64 ≤ k) (GV : FnOk P w K mg base (L2.CX P w) k A.iV.a A.iV.d ["self", "expression", "env"] (spVisit K A n)) :
    FnOk P w K mg base (L2.CX P w) (k + 1) A.iG.a A.iG.d ["self", "expression", "env"] (spFunction K A (n + 1)) := by
  have GW := (ok_Rflow (base := base) T).mono (show 1 ≤ k by omega)
  have GR := (ok_Rfresh (base := base) T).mono (show 1 ≤ k by omega)
  have GK := (ok_Kfresh (base := base) T).mono (show 1 ≤ k by omega)
  have GF := (ok_fits (base := base) T).mono (show 64 ≤ k by omega)
  refine T.tI.G.F.okX scIg (fun vs H Q E h => ?_) (fun cdv A0 outer s0 H vs Q E hr h => ?_)
  · obtain ⟨L, s, x, e, env, ve, vv, rfl, _⟩ := h
    rfl
  · obtain ⟨L, s, x, e, env, ve, vv, rfl, hA, he, hv, hd, h3⟩ := h
    refine ⟨_, pss_cons (ps_set (i := 3) scIg.nd rfl (Or.inl rfl) (pe_meth0 (pe_fld (pv 0) rfl) T.tK.cl T.tK.F.m GK hr T.tK.F.b .nil pass0))
      (pss_cons (ps_set (i := 4) scIg.nd rfl (Or.inl rfl) (pe_meth0 (pe_fld (pv 0) rfl) T.tK.cl T.tK.F.m GK hr T.tK.F.b .nil pass0))
      (pss_cons (ps_set (i := 5) scIg.nd rfl (Or.inl rfl) (pe_tup (pa_cons pe_str (pa_cons (pv 3) (pa_cons (pe_meth0 (pe_fld (pv 0) rfl) T.tR.cl T.tR.F.m GR hr T.tR.F.b .nil pass0) (pa_cons (pv 4) pa_nil))))))
      (pss_cons (ps_if (pt_cmpR op_eq (pe_ix ix_tup (pv 1) pe_int (fun _ _ => rfl)) pe_str (nomark _)) pss_never pss_nil)
      (pss_cons (ps_set (i := 6) scIg.nd rfl (Or.inl rfl) (pe_meth (pv 0) T.tI.cl T.tI.V.m GV hr T.tI.V.b .nil (passes_call (takes_of rfl rfl rfl rfl) (fun _ _ _ _ h => h))
        (pa_cons (pe_ix ix_tup (pv 1) (pe_un un_neg pe_int) (fun _ _ => rfl)) (pa_cons (pe_tup (pa_cons (pe_ix ix_tup (pv 1) (pe_un un_neg pe_int) (fun _ _ => rfl)) (pa_cons (pv 3) (pa_cons (pv 2) pa_nil)))) pa_nil))))
      (pss_cons (ps_expr (pe_meth (pe_fld (pv 0) rfl) T.tR.cl T.tR.W.m GW hr T.tR.W.b .nil pass0 (pa_cons (pe_ix ix_list (pe_fld (pv 0) rfl) (pv 6) (fun _ _ => rfl)) (pa_cons (pe_ix ix_tup (pv 5) pe_int (fun _ _ => rfl)) (pa_cons (pe_lst pa_nil) pa_nil)))))
      (pss_cons (ps_expr (pe_meth (pv 0) T.tI.cl T.tI.F.m GF hr T.tI.F.b .nil pass0 (pa_cons (pv 6) (pa_cons (pv 4) pa_nil))))
      (pss_one (ps_ret (pv 5))))))))), ?_⟩
    obtain ⟨ea, vb, rfl, hea, hvb⟩ := he
    unfold function at h3
    obtain ⟨s1, hs1, h3⟩ := h3.lift
    obtain ⟨s2, hs2, h3⟩ := h3.lift
    obtain ⟨s3, hs3, h3⟩ := h3.lift
    refine ⟨_, rfl, _, _, _, _, _, rfl, hA.oI, T.tI.cl, T.tI.nk, fIk _ _ _ _ _, _, _, _, rfl, hA.oK, fK0 _ _ (by decide +kernel), L, s, s1, rfl, hA, hs1, fun H1 v1 k1 A1 hv1 => ?_⟩
    refine ⟨_, rfl, _, _, _, _, _, rfl, A1.oI, T.tI.cl, T.tI.nk, fIk _ _ _ _ _, _, _, _, rfl, A1.oK, fK0 _ _ (by decide +kernel), L, s1, s2, rfl, A1, hs2, fun H2 v2 k2 A2 hv2 => ?_⟩
    refine ⟨_, rfl, _, rfl, _, _, _, _, _, rfl, A2.oI, T.tI.cl, T.tI.nr, fIr _ _ _ _ _, _, _, _, rfl, A2.oR, fR0 _ _ _ (by decide +kernel), L, s2, s3, rfl, A2, hs3, fun H3 k3 A3 => ?_⟩
    refine ⟨_, rfl, (by show 4 ≤ sizeLine; decide), fun p hp => ?_⟩
    have s4' := same_new hp (.tup [.str "fun", v1, .int (s2.links.length : Nat), v2])
    have A4 := A3.same s4'
    have hp4 : (upd H3 p (.tup [.str "fun", v1, .int (s2.links.length : Nat), v2])) p = some (.tup [.str "fun", v1, .int (s2.links.length : Nat), v2]) := upd_same
    have k14 := k1.trans (k2.trans (k3.trans (Kp.of s4')))
    have e14 := hA.ext k14
    have e24 := A1.ext (k2.trans (k3.trans (Kp.of s4')))
    have e34 := A2.ext (k3.trans (Kp.of s4'))
    generalize upd H3 p (.tup [.str "fun", v1, .int (s2.links.length : Nat), v2]) = H4 at A4 hp4 k14 e14 e24 e34 ⊢
    have hea4 := hea.ext e14
    refine ⟨_, rfl, ea, _, _, _, rfl, rfl, hea4.sq, at0, rfl, _, rfl, ?_⟩
    rw [show decide (V.str "fun" = V.str "rec") = false by decide +kernel]
    refine iteF ⟨_, rfl, _, _, _, rfl, A4.oI, fI0 _ _ _ _ _ (by decide +kernel), _, rfl, _, rfl, ea, _, _, _, rfl, rfl, hea4.sq, (show atI [V.str "fun", V.str (nm x), vb] (-1) = some vb from rfl), _, rfl, _, rfl, ea, _, _, _, rfl, rfl, hea4.sq, (show atI [V.str "fun", V.str (nm x), vb] (-2) = some (V.str (nm x)) from rfl), _, rfl, _, rfl, (by show 3 ≤ sizeLine; decide), fun t ht => ?_⟩
    have s5' := same_new ht (.tup [.str (nm x), v1, vv])
    have A5 := A4.same s5'
    have e5 := sExt s5'
    have ht5 : (upd H4 t (.tup [.str (nm x), v1, vv])) t = some (.tup [.str (nm x), v1, vv]) := upd_same
    generalize upd H4 t (.tup [.str (nm x), v1, vv]) = H5 at A5 e5 ht5 s5' ⊢
    have k15 := k14.trans (Kp.of s5')
    refine ⟨L, s3, e, (x, .var s.ms.length) :: env, vb, .ref t, rfl, A5, (hvb.ext e14).ext e5, ⟨t, v1, vv, rfl, Tp.of ht5, (hv1.ext e24).ext e5, (hv.ext e14).ext e5⟩, by omega, ?_⟩
    have h4 := (h3.bind).kp k15
    generalize visitBy (judge e) ((x, .var s.ms.length) :: env) s3 = xx at h4 ⊢
    match xx, h4 with
    | none, h4 => exact h4
    | some none, h4 => exact h4
    | some (some s4), h4 =>
      intro H6 k6 A6
      have h5 := h4 H6 k6
      obtain ⟨a, ha, h5⟩ := h5.lift
      obtain ⟨s5, hs5, h5⟩ := h5.lift
      obtain ⟨s6, hs6, h5⟩ := h5.lift
      have e6 := A5.ext k6
      have hp6 := (e6 _ _ (e5 _ _ hp4))
      refine ⟨_, rfl, _, _, _, _, _, rfl, A6.oI, T.tI.cl, T.tI.nr, fIr _ _ _ _ _, _, _, _, rfl, A6.oR, fR0 _ _ _ (by decide +kernel), _, rfl, _, _, _, _, _, rfl, A6.oI, T.tI.cl, T.tI.no, fIo _ _ _ _ _, _, rfl, L.lo, _, _, _, rfl, rfl, SqL.of A6.own, atI_vN ha, _, rfl, p, _, _, _, rfl, rfl, SqT.of hp6, at2, (by show 0 ≤ sizeLine; decide), fun w0 hw0 => ?_⟩
      have s7' := same_new hw0 (.lst [])
      refine ⟨L, s4, s5, a, s2.links.length, w0, [], rfl, SqL.of upd_same, A6.same s7', hs5, fun H8 k8 A8 => ?_⟩
      have k68 := (Kp.of (L := L) s7').trans k8
      have e8 := A6.ext k68
      have t1 := ((hv1.ext e24).ext e5).ext (e6.trans e8)
      have t2 := ((hv2.ext e34).ext e5).ext (e6.trans e8)
      refine ⟨_, rfl, _, _, _, rfl, A8.oI, fI0 _ _ _ _ _ (by decide +kernel), _, rfl, _, rfl, L, s5, s6, s3.ts.length, .var s1.ms.length, v2, rfl, A8, t2, hs6, fun H9 k9 A9 => ?_⟩
      have e9 := A8.ext k9
      exact ⟨_, rfl, h5 H9 (k68.trans k9) _ A9 ⟨p, v1, v2, rfl, Tp.of (e9 _ _ (e8 _ _ hp6)), t1.ext e9, t2.ext e9⟩⟩
end
end K9
/-! Inferrer.judged; the induction. -/
namespace K9
open PySem L2
theorem Ends3.imp {α : Type} {A : Adr} {L : Lay} {H : Hp} {E : XK} {x : R α} {ok ok' : α → Hp → Prop} (i : ∀ a H', Kp L H H' → ok a H' → ok' a H') (h : Ends3 A L H E x ok) : Ends3 A L H E x ok' := by
  match x, h with
  | none, h => exact h
  | some none, h => exact h
  | some (some a), h => exact fun H' k => i _ _ k (h H' k)
theorem del_upd {H : Hp} {D : Addr} {o : HO} (h : H D = none) : del (upd H D o) D = H := by
  funext b
  by_cases e : b = D
  · rw [e, del_same, h]
  · rw [del_ne e, upd_ne e]
/-- what follows behind the parts -/
def Fin3 (A : Adr) (L : Lay) (E : XK) (h : Hd) (m : Nat) (ok : Ty × S → Hp → Prop) (acc : List Nat) (s : S) (H : Hp) : Prop := Ends3 A L H E (lift (composed h acc m s) fun q => some (some q)) ok
abbrev tePart (K : PySem.W.Frag) (A : Adr) (n : Nat) (E : XK) : TE := fun σ H Q => ∃ (D : Addr) (xs : List V), H D = some (.lst xs) ∧ tMeth A.cI "part" (spPart K A n) [] E (tVar 0) (tCons (tVar 7) (tCons (tVar 2) (tCons (tVar 3) tNil))) σ (del H D) fun v H' => H' D = none → Q v (upd H' D (.lst xs))
section
variable {P : Program} {w : World} {K : PySem.W.Frag} {mg : Str → Option Value} {base : Heap} {A : Adr}
theorem parts_W {n m : Nat} {L : Lay} {H : Hp} {E : XK} {s : S} {env : Ev} {es : List Exp} {ws : List V} {vv : V} {p D : Addr} {h : Hd} {σ : L2.St} {Q : Hp → Prop} {ok : Ty × S → Hp → Prop} (hA : At K A.toCl L H s) (hp : H p = some (.tup ws)) (hw : All2 (ExpAt K H) es ws) (hv : EvAt K H env vv) (hd : ∀ e ∈ es, e.dep ≤ n) (hl : es.length ≤ 2)
    (s0 : σ[0]? = some (some (.ref L.inf))) (s2 : σ[2]? = some (some vv)) (s3 : σ[3]? = some (some (.int (m : Nat)))) (sl : σ.length = 8) (hD : H D = none)
    (h3 : Ends3 A L H E (partsBy (es.map judge) env m s) (fun q H' => Fin3 A L E h m ok q.1 q.2 H'))
    (hQ : ∀ H2 s2 acc, At K A.toCl L H2 s2 → Kp L H H2 → H2 D = none → Fin3 A L E h m ok acc s2 H2 → Q (upd H2 D (.lst (vN acc)))) :
    ∃ W : Nat → Nat → Hp → Prop, (∃ m, W 0 m (upd H D (.lst []))) ∧ ∀ i m H, W i m H →
      ((Itt K p).stop i H ∧ Q H) ∨ ((Itt K p).go i H ∧ ∃ Nx : Hp → Prop, (∀ H', Nx H' → ∃ m', m' < m ∧ W (i + 1) m' H') ∧ ∀ x H', (Itt K p).yld i H x H' → gName 7 x (wipe σ [7]) H' fun σ2 H2 => wipe σ2 [7] = wipe σ [7] ∧
        tePart K A n E σ2 H2 fun y H4 => ∃ acc, H4 D = some (.lst acc) ∧ acc.length < sizeLine ∧ Nx (upd H4 D (.lst (acc ++ [y])))) := by
  have pD : p ≠ D := ne_of_none hp hD
  have pf : p ∉ L.foot := hA.not_foot hp (fun _ z => by cases z)
  refine ⟨fun i k H2 => k = es.length - i ∧ i ≤ es.length ∧ ∃ H2' si acc, H2 = upd H2' D (.lst (vN acc)) ∧ H2' D = none ∧ At K A.toCl L H2' si ∧ Kp L H H2' ∧ acc.length = i ∧
    Ends3 A L H2' E (partsBy ((es.map judge).drop i) env m si) (fun q H' => Fin3 A L E h m ok (acc ++ q.1) q.2 H'), ⟨_, rfl, Nat.zero_le _, H, s, [], rfl, hD, hA, Kp.refl _ _, rfl, h3⟩, ?_⟩
  rintro i k H2 ⟨rfl, hi, H2', si, acc, rfl, hDn, Ai, ki, hacc, hE⟩
  have hp2 : (upd H2' D (.lst (vN acc))) p = some (.tup ws) := by rw [upd_ne pD]; exact ki _ _ hp pf
  by_cases hlt : i < es.length
  · right
    have hlw : i < ws.length := by rw [hw.length]; exact hlt
    refine ⟨⟨ws, _, SqT.of hp2, List.getElem?_eq_getElem hlw⟩, fun H' => ∃ H3 si acc', H' = upd H3 D (.lst (vN acc')) ∧ H3 D = none ∧ At K A.toCl L H3 si ∧ Kp L H H3 ∧ acc'.length = i + 1 ∧
      Ends3 A L H3 E (partsBy ((es.map judge).drop (i + 1)) env m si) (fun q H' => Fin3 A L E h m ok (acc' ++ q.1) q.2 H'), fun H' z => ⟨es.length - (i + 1), by omega, rfl, by omega, z⟩, ?_⟩
    rintro x H' ⟨rfl, hx⟩
    have hx' := hx ws (SqT.of hp2)
    obtain ⟨e, he, hex⟩ := hw.get' hx'
    have e0 := hA.ext ki
    have sl7 : 7 < σ.length := by omega
    have g0 : ∀ {j : Nat} {v : V}, σ[j]? = some (some v) → j ≠ 7 → ((wipe σ [7]).set 7 (some x))[j]? = some (some v) := fun {j v} z hj => by
      show ((σ.set 7 none).set 7 (some x))[j]? = _
      rw [List.getElem?_set_ne (Ne.symm hj), List.getElem?_set_ne (Ne.symm hj)]
      exact z
    have g7 : ((wipe σ [7]).set 7 (some x))[7]? = some (some x) := by
      show ((σ.set 7 none).set 7 (some x))[7]? = _
      rw [List.getElem?_set_self (by simpa using sl7)]
    have hdrop : (es.map judge).drop i = judge e :: (es.map judge).drop (i + 1) := by
      have hlm : i < (es.map judge).length := by simpa using hlt
      rw [List.drop_eq_getElem_cons hlm]
      congr 1
      rw [List.getElem_map]
      congr 1
      have := List.getElem?_eq_some_iff.mp he
      exact this.2
    rw [hdrop] at hE
    refine ⟨by show ((σ.set 7 none).set 7 (some x)).set 7 none = σ.set 7 none; simp, D, vN acc, upd_same, ?_⟩
    rw [del_upd hDn]
    have hE' : Ends3 A L H2' E (partBy (judge e) env m si) _ := hE.bind
    refine ⟨_, g0 s0 (by decide), _, _, _, rfl, Ai.oI, fI0 _ _ _ _ _ (by decide +kernel), _, g7, _, g0 s2 (by decide), _, g0 s3 (by decide), L, si, e, env, x, vv, m, rfl, Ai, hex.ext e0, hv.ext e0, hd e (List.mem_of_getElem? he), ?_⟩
    refine hE'.imp fun s' H4 k4 hok A4 hD4 => ?_
    refine ⟨vN acc, upd_same, by rw [vN_length]; exact small1000 (by omega), H4, s', acc ++ [si.ts.length], by rw [upd_upd, vN_snoc], hD4, A4, ki.trans k4, by simp [hacc], ?_⟩
    refine hok.bind.imp fun q H5 k5 z => ?_
    have z' : Fin3 A L E h m ok (acc ++ si.ts.length :: q.1) q.2 H5 := z H5 (Kp.refl _ _)
    rw [List.append_assoc]
    exact z'
  · left
    have e1 : i = es.length := by omega
    refine ⟨⟨ws, SqT.of hp2, by rw [hw.length]; omega⟩, ?_⟩
    have e2 : (es.map judge).drop i = [] := by rw [e1]; simp
    rw [e2] at hE
    have z : Fin3 A L E h m ok (acc ++ []) si H2' := hE H2' (Kp.refl _ _)
    rw [List.append_nil] at z
    exact hQ _ _ _ Ai ki hDn z
theorem ok_judged (T : Txt P w K mg A) {n k : Nat} (hk : 65 ≤ k) (GP : FnOk P w K mg base (L2.CX P w) k A.iP.a A.iP.d ["self", "expression", "env", "number"] (spPart K A n))
    (GG : FnOk P w K mg base (L2.CX P w) k A.iG.a A.iG.d ["self", "expression", "env"] (spFunction K A (n + 1))) :
    FnOk P w K mg base (L2.CX P w) (k + 1) A.iJ.a A.iJ.d ["self", "expression", "env", "number"] (spJudged K A (n + 1)) := by
  have GL := (ok_looked (base := base) T).mono (show 1 ≤ k by omega)
  have GC := (ok_composed (base := base) T).mono (show 65 ≤ k by omega)
  obtain ⟨hcg, es0, n0, KD, hnum, hno⟩ := T.con
  refine T.tI.J.F.okX scIj (fun vs H Q E h => ?_) (fun cdv A0 outer s0 H vs Q E hr h => ?_)
  · obtain ⟨L, s, e, env, ve, vv, m, rfl, _⟩ := h
    rfl
  · obtain ⟨L, s, e, env, ve, vv, m, rfl, hA, he, hv, hd, h3⟩ := h
    refine ⟨_, pss_cons (ps_set (i := 4) scIj.nd rfl (Or.inl rfl) (pe_ix ix_tup (pv 1) pe_int (fun _ _ => rfl)))
      (pss_cons (ps_if (pt_cmpR (op_in_kd KD) (pv 4) (pe_glob (v := V.ref A.aC) rfl hcg rfl) (by rfl)) (pss_one (ps_ret (pe_ix ix_kdict (pe_glob (v := V.ref A.aC) rfl hcg rfl) (pv 4) (fun _ _ => rfl)))) pss_nil)
      (pss_cons (ps_if (pt_cmpR op_eq (pv 4) pe_str (nomark _)) (pss_one (ps_ret (pe_call GL hr rfl T.tI.l.g T.tI.l.F.kp T.tI.l.b .nil pass0 (pa_cons (pv 2) (pa_cons (pe_ix ix_tup (pv 1) pe_int (fun _ _ => rfl)) pa_nil))))) pss_nil)
      (pss_cons (ps_if (PW.pt (pw_or (pt_cmpR op_eq (pv 4) pe_str (nomark _)) (pw_or1 (pt_cmpR op_eq (pv 4) pe_str (nomark _)))))
        (pss_one (ps_ret (pe_meth (pv 0) T.tI.cl T.tI.G.m GG hr T.tI.G.b .nil (passes_call (takes_of rfl rfl rfl rfl) (fun _ _ _ _ h => h)) (pa_cons (pv 1) (pa_cons (pv 2) pa_nil))))) pss_nil)
      (pss_cons (ps_if (pt_cmpR op_eq (pv 4) pe_str (nomark _))
        (pss_cons (ps_set (i := 5) scIj.nd rfl (Or.inl rfl) (pe_meth (pv 0) T.tI.cl T.tI.P.m GP hr T.tI.P.b .nil (passes_call (takes_of rfl rfl rfl rfl) (fun _ _ _ _ h => h)) (pa_cons (pe_ix ix_tup (pv 1) pe_int (fun _ _ => rfl)) (pa_cons (pv 2) (pa_cons (pv 3) pa_nil)))))
        (pss_cons (ps_set (i := 6) scIj.nd rfl (Or.inl rfl) (pe_tup (pa_cons (pe_ix ix_tup (pv 1) pe_int (fun _ _ => rfl)) (pa_cons (pe_ix ix_list (pe_fld (pv 0) rfl) (pv 5) (fun _ _ => rfl)) (pa_cons (pv 2) pa_nil)))))
        (pss_one (ps_ret (pe_ix ix_list (pe_fld (pv 0) rfl) (pe_meth (pv 0) T.tI.cl T.tI.P.m GP hr T.tI.P.b .nil (passes_call (takes_of rfl rfl rfl rfl) (fun _ _ _ _ h => h)) (pa_cons (pe_ix ix_tup (pv 1) pe_int (fun _ _ => rfl)) (pa_cons (pv 6) (pa_cons (pv 3) pa_nil)))) (fun _ _ => rfl)))))) pss_nil)
      (pss_cons (ps_if (pt_cmpR op_eq (pv 4) pe_str (nomark _)) pss_never pss_nil)
      (pss_cons (ps_if (pt_cmpR op_eq (pv 4) pe_str (nomark _)) pss_never pss_nil)
      (pss_cons (ps_if (pt_cmpR op_eq (pv 4) pe_str (nomark _)) pss_never pss_nil)
      (pss_cons (ps_setLcX (i := 6) (own := [("part", 7)]) (g := gName 7) (te := tePart K A n E) rfl rfl (takes_of rfl rfl rfl rfl) (fun _ _ _ _ h => h) rfl scIj.nd rfl rfl (sw_true rfl rfl rfl (by decide +kernel))
        (pi_tup (pe_slice sl_tup (pv 1) (po_some pe_int) po_none)) (blkOk_by (N := NJ) (sc := defScope sIjudged) (by decide +kernel)) (fun _ _ _ _ _ => pg_name (i := 7) scIj.nd rfl (Or.inl rfl))
        (fun _ _ _ _ _ xe px => pe_frame (pe_meth (pv 0) T.tI.cl T.tI.P.m GP hr T.tI.P.b .nil px (pa_cons (pv 7) (pa_cons (pv 2) (pa_cons (pv 3) pa_nil))))))
      (pss_one (ps_ret (pe_meth (pv 0) T.tI.cl T.tI.C.m GC hr T.tI.C.b .nil pass0 (pa_cons (pv 4) (pa_cons (pv 6) (pa_cons (pv 3) pa_nil)))))))))))))), ?_⟩
    have hcn : ∀ x : Str, x ∈ (["name", "fun", "let", "pair", "fst", "not", "call"] : List Str) → PySem.W.nsIn K A.aC x = some none := hno
    cases e with
    | num i =>
      obtain ⟨a, rfl, ha⟩ := he
      refine ⟨_, rfl, a, _, _, _, rfl, rfl, ha.sq, at0, ?_⟩
      refine ⟨_, rfl, _, _, rfl, rfl, hnum, _, rfl, iteT ?_⟩
      refine ⟨_, rfl, _, _, .ref A.aI, rfl, rfl, ⟨es0, n0, _, KD.at_, KD.lit, hnum, rfl⟩, ?_⟩
      exact h3 H (Kp.refl _ _) _ hA ⟨_, rfl, .inr T.tI.i.2⟩
    | name x =>
      obtain ⟨a, rfl, ha⟩ := he
      refine ⟨_, rfl, a, _, _, _, rfl, rfl, ha.sq, at0, ?_⟩
      refine ⟨_, rfl, _, _, rfl, rfl, hcn "name" (by decide +kernel), _, rfl, iteF ?_⟩
      refine ⟨_, rfl, rfl, _, rfl, ?_⟩
      rw [show decide (V.str "name" = V.str "name") = true by decide +kernel]
      obtain ⟨t, ht, h3⟩ := Ends3.lift h3
      exact iteT ⟨_, rfl, _, rfl, a, _, _, _, rfl, rfl, ha.sq, at1, env, x, t, vv, rfl, hv, ht, fun v' hv' => h3 H (Kp.refl _ _) v' hA hv'⟩
    | fn x b =>
      obtain ⟨a, vb, rfl, ha, hb⟩ := he
      refine ⟨_, rfl, a, _, _, _, rfl, rfl, ha.sq, at0, ?_⟩
      refine ⟨_, rfl, _, _, rfl, rfl, hcn "fun" (by decide +kernel), _, rfl, iteF ?_⟩
      refine ⟨_, rfl, rfl, _, rfl, ?_⟩
      rw [show decide (V.str "fun" = V.str "name") = false by decide +kernel]
      refine iteF ⟨_, rfl, rfl, _, rfl, ?_⟩
      rw [show decide (V.str "fun" = V.str "fun") = true by decide +kernel]
      exact iteT (iteT ⟨_, rfl, _, _, _, rfl, hA.oI, fI0 _ _ _ _ _ (by decide +kernel), _, rfl, _, rfl, L, s, x, b, env, .ref a, vv, rfl, hA, ⟨a, vb, rfl, ha, hb⟩, hv, hd, h3⟩)
    | letE x e f =>
      obtain ⟨a, ve, vf, rfl, ha, he, hf⟩ := he
      simp only [Exp.dep] at hd
      have h4 : Ends3 A L H E (R.bind (partBy (judge e) env m s) fun s1 => lift (typ s1 s.ts.length) fun t => R.bind (partBy (judge f) ((x, t) :: env) m s1) fun s2 => lift (typ s2 s1.ts.length) fun u => some (some (u, s2))) _ := h3
      refine ⟨_, rfl, a, _, _, _, rfl, rfl, ha.sq, at0, ?_⟩
      refine ⟨_, rfl, _, _, rfl, rfl, hcn "let" (by decide +kernel), _, rfl, iteF ?_⟩
      refine ⟨_, rfl, rfl, _, rfl, ?_⟩
      rw [show decide (V.str "let" = V.str "name") = false by decide +kernel]
      refine iteF ⟨_, rfl, rfl, _, rfl, ?_⟩
      rw [show decide (V.str "let" = V.str "fun") = false by decide +kernel]
      refine iteF ⟨_, rfl, rfl, _, rfl, ?_⟩
      rw [show decide (V.str "let" = V.str "rec") = false by decide +kernel]
      refine iteF ⟨_, rfl, rfl, _, rfl, ?_⟩
      rw [show decide (V.str "let" = V.str "let") = true by decide +kernel]
      refine iteT ⟨_, rfl, _, _, _, rfl, hA.oI, fI0 _ _ _ _ _ (by decide +kernel), _, rfl, a, _, _, _, rfl, rfl, ha.sq, at2, _, rfl, _, rfl, L, s, e, env, ve, vv, m, rfl, hA, he, hv, by omega, ?_⟩
      refine h4.bind.imp fun s1 H1 k1 h5 A1 => ?_
      obtain ⟨t, ht, h5⟩ := h5.lift
      obtain ⟨tv, v, htv, hvv, hvt⟩ := typ_at A1 ht
      have e1 := hA.ext k1
      refine ⟨_, rfl, a, _, _, _, rfl, rfl, (ha.ext e1).sq, at1, _, rfl, _, _, _, _, _, rfl, A1.oI, T.tI.cl, T.tI.nt, fIt _ _ _ _ _, _, rfl, L.lt, tv, _, v, rfl, rfl, SqL.of htv, atI_nat hvv, _, rfl, (by show 3 ≤ sizeLine; decide), fun p hp => ?_⟩
      have s2 := same_new hp (.tup [.str (nm x), v, vv])
      have A2 := A1.same s2
      have hp2 : (upd H1 p (.tup [.str (nm x), v, vv])) p = some (.tup [.str (nm x), v, vv]) := upd_same
      have e2 := sExt s2
      generalize upd H1 p (.tup [.str (nm x), v, vv]) = H2 at A2 hp2 e2 s2 ⊢
      refine ⟨_, rfl, _, _, _, _, _, rfl, A2.oI, T.tI.cl, T.tI.nt, fIt _ _ _ _ _, _, rfl, _, _, _, rfl, A2.oI, fI0 _ _ _ _ _ (by decide +kernel), _, rfl, a, _, _, _, rfl, rfl, ((ha.ext e1).ext e2).sq, at3, _, rfl, _, rfl, L, s1, f, (x, t) :: env, vf, .ref p, m, rfl, A2, (hf.ext e1).ext e2, ⟨p, v, vv, rfl, Tp.of hp2, hvt.ext e2, (hv.ext e1).ext e2⟩, by omega, ?_⟩
      refine (h5.bind.kp (Kp.of s2)).imp fun s3 H3 k3 h6 A3 => ?_
      obtain ⟨u, hu, h6⟩ := h6.lift
      obtain ⟨tv3, v3, htv3, hvv3, hvt3⟩ := typ_at A3 hu
      exact ⟨L.lt, tv3, _, v3, rfl, rfl, SqL.of htv3, atI_nat hvv3, h6 H3 (Kp.refl _ _) v3 A3 hvt3⟩
    | pair e f =>
      obtain ⟨a, ve, vf, rfl, ha, he, hf⟩ := he
      have h4 : Ends3 A L H E (R.bind (partsBy [judge e, judge f] env m s) fun p => lift (composed .pair p.1 m p.2) fun q => some (some q)) _ := h3
      refine ⟨_, rfl, a, _, _, _, rfl, rfl, ha.sq, at0, ?_⟩
      refine ⟨_, rfl, _, _, rfl, rfl, hcn "pair" (by decide +kernel), _, rfl, iteF ?_⟩
      refine ⟨_, rfl, rfl, _, rfl, ?_⟩
      rw [show decide (V.str "pair" = V.str "name") = false by decide +kernel]
      refine iteF ⟨_, rfl, rfl, _, rfl, ?_⟩
      rw [show decide (V.str "pair" = V.str "fun") = false by decide +kernel]
      refine iteF ⟨_, rfl, rfl, _, rfl, ?_⟩
      rw [show decide (V.str "pair" = V.str "rec") = false by decide +kernel]
      refine iteF ⟨_, rfl, rfl, _, rfl, ?_⟩
      rw [show decide (V.str "pair" = V.str "let") = false by decide +kernel]
      refine iteF ⟨_, rfl, rfl, _, rfl, ?_⟩
      rw [show decide (V.str "pair" = V.str "ask") = false by decide +kernel]
      refine iteF ⟨_, rfl, rfl, _, rfl, ?_⟩
      rw [show decide (V.str "pair" = V.str "handle") = false by decide +kernel]
      refine iteF ⟨_, rfl, rfl, _, rfl, ?_⟩
      rw [show decide (V.str "pair" = V.str "op") = false by decide +kernel]
      refine iteF ?_
      refine ⟨_, rfl, _, rfl, a, _, rfl, ha.sq, (fun z => absurd z.1 (show ¬ HT.sIx 3 0 (some 1) = 0 by decide)), fun p hp => ?_⟩
      have s1 := same_new hp (.tup (cutV [.str "pair", ve, vf] (some 1) none))
      have hp1 : (upd H p (.tup (cutV [.str "pair", ve, vf] (some 1) none))) p = some (.tup [ve, vf]) := upd_same
      have A1 := hA.same s1
      have e1 := sExt s1
      have k1 := Kp.of (L := L) s1
      generalize upd H p (.tup (cutV [.str "pair", ve, vf] (some 1) none)) = H1 at hp1 A1 e1 k1 ⊢
      refine ⟨p, rfl, ⟨_, SqT.of hp1⟩, fun D hD => ?_⟩
      refine parts_W (n := n) (E := E) (σ := [some (.ref L.inf), some (.ref a), some vv, some (.int (m : Nat)), some (.str "pair"), none, none, none]) (h := .pair) (m := m) (es := [e, f]) (env := env) A1 hp1 (.cons (he.ext e1) (.cons (hf.ext e1) .nil)) (hv.ext e1) (fun x hx => ?_) (by simp) rfl rfl rfl rfl hD (h4.bind.kp k1) fun H2 s2 acc A2 k2 hDn hF => ?_
      · simp only [Exp.dep] at hd
        simp only [List.mem_cons, List.not_mem_nil, or_false] at hx
        rcases hx with rfl | rfl <;> omega
      · unfold Fin3 at hF
        obtain ⟨⟨t, s'⟩, hcmp, hF⟩ := hF.lift
        have s3 := same_new hDn (.lst (vN acc))
        have A3 := A2.same s3
        refine ⟨_, rfl, _, _, _, rfl, A3.oI, fI0 _ _ _ _ _ (by decide +kernel), _, rfl, _, rfl, _, rfl, L, s2, s', .pair, acc, D, m, t, rfl, upd_same, A2.none_foot hDn, A3, hcmp, fun H4 v k4 A4 hv4 => ?_⟩
        exact hF H4 ((Kp.of s3).trans k4) v A4 hv4
    | fst e =>
      obtain ⟨a, ve, rfl, ha, he⟩ := he
      have h4 : Ends3 A L H E (R.bind (partsBy [judge e] env m s) fun p => lift (composed .fst p.1 m p.2) fun q => some (some q)) _ := h3
      refine ⟨_, rfl, a, _, _, _, rfl, rfl, ha.sq, at0, ?_⟩
      refine ⟨_, rfl, _, _, rfl, rfl, hcn "fst" (by decide +kernel), _, rfl, iteF ?_⟩
      refine ⟨_, rfl, rfl, _, rfl, ?_⟩
      rw [show decide (V.str "fst" = V.str "name") = false by decide +kernel]
      refine iteF ⟨_, rfl, rfl, _, rfl, ?_⟩
      rw [show decide (V.str "fst" = V.str "fun") = false by decide +kernel]
      refine iteF ⟨_, rfl, rfl, _, rfl, ?_⟩
      rw [show decide (V.str "fst" = V.str "rec") = false by decide +kernel]
      refine iteF ⟨_, rfl, rfl, _, rfl, ?_⟩
      rw [show decide (V.str "fst" = V.str "let") = false by decide +kernel]
      refine iteF ⟨_, rfl, rfl, _, rfl, ?_⟩
      rw [show decide (V.str "fst" = V.str "ask") = false by decide +kernel]
      refine iteF ⟨_, rfl, rfl, _, rfl, ?_⟩
      rw [show decide (V.str "fst" = V.str "handle") = false by decide +kernel]
      refine iteF ⟨_, rfl, rfl, _, rfl, ?_⟩
      rw [show decide (V.str "fst" = V.str "op") = false by decide +kernel]
      refine iteF ?_
      refine ⟨_, rfl, _, rfl, a, _, rfl, ha.sq, (fun z => absurd z.1 (show ¬ HT.sIx 2 0 (some 1) = 0 by decide)), fun p hp => ?_⟩
      have s1 := same_new hp (.tup (cutV [.str "fst", ve] (some 1) none))
      have hp1 : (upd H p (.tup (cutV [.str "fst", ve] (some 1) none))) p = some (.tup [ve]) := upd_same
      have A1 := hA.same s1
      have e1 := sExt s1
      have k1 := Kp.of (L := L) s1
      generalize upd H p (.tup (cutV [.str "fst", ve] (some 1) none)) = H1 at hp1 A1 e1 k1 ⊢
      refine ⟨p, rfl, ⟨_, SqT.of hp1⟩, fun D hD => ?_⟩
      refine parts_W (n := n) (E := E) (σ := [some (.ref L.inf), some (.ref a), some vv, some (.int (m : Nat)), some (.str "fst"), none, none, none]) (h := .fst) (m := m) (es := [e]) (env := env) A1 hp1 (.cons (he.ext e1) .nil) (hv.ext e1) (fun x hx => ?_) (by simp) rfl rfl rfl rfl hD (h4.bind.kp k1) fun H2 s2 acc A2 k2 hDn hF => ?_
      · simp only [Exp.dep] at hd
        simp only [List.mem_cons, List.not_mem_nil, or_false] at hx
        subst hx
        omega
      · unfold Fin3 at hF
        obtain ⟨⟨t, s'⟩, hcmp, hF⟩ := hF.lift
        have s3 := same_new hDn (.lst (vN acc))
        have A3 := A2.same s3
        refine ⟨_, rfl, _, _, _, rfl, A3.oI, fI0 _ _ _ _ _ (by decide +kernel), _, rfl, _, rfl, _, rfl, L, s2, s', .fst, acc, D, m, t, rfl, upd_same, A2.none_foot hDn, A3, hcmp, fun H4 v k4 A4 hv4 => ?_⟩
        exact hF H4 ((Kp.of s3).trans k4) v A4 hv4
    | not e =>
      obtain ⟨a, ve, rfl, ha, he⟩ := he
      have h4 : Ends3 A L H E (R.bind (partsBy [judge e] env m s) fun p => lift (composed .not p.1 m p.2) fun q => some (some q)) _ := h3
      refine ⟨_, rfl, a, _, _, _, rfl, rfl, ha.sq, at0, ?_⟩
      refine ⟨_, rfl, _, _, rfl, rfl, hcn "not" (by decide +kernel), _, rfl, iteF ?_⟩
      refine ⟨_, rfl, rfl, _, rfl, ?_⟩
      rw [show decide (V.str "not" = V.str "name") = false by decide +kernel]
      refine iteF ⟨_, rfl, rfl, _, rfl, ?_⟩
      rw [show decide (V.str "not" = V.str "fun") = false by decide +kernel]
      refine iteF ⟨_, rfl, rfl, _, rfl, ?_⟩
      rw [show decide (V.str "not" = V.str "rec") = false by decide +kernel]
      refine iteF ⟨_, rfl, rfl, _, rfl, ?_⟩
      rw [show decide (V.str "not" = V.str "let") = false by decide +kernel]
      refine iteF ⟨_, rfl, rfl, _, rfl, ?_⟩
      rw [show decide (V.str "not" = V.str "ask") = false by decide +kernel]
      refine iteF ⟨_, rfl, rfl, _, rfl, ?_⟩
      rw [show decide (V.str "not" = V.str "handle") = false by decide +kernel]
      refine iteF ⟨_, rfl, rfl, _, rfl, ?_⟩
      rw [show decide (V.str "not" = V.str "op") = false by decide +kernel]
      refine iteF ?_
      refine ⟨_, rfl, _, rfl, a, _, rfl, ha.sq, (fun z => absurd z.1 (show ¬ HT.sIx 2 0 (some 1) = 0 by decide)), fun p hp => ?_⟩
      have s1 := same_new hp (.tup (cutV [.str "not", ve] (some 1) none))
      have hp1 : (upd H p (.tup (cutV [.str "not", ve] (some 1) none))) p = some (.tup [ve]) := upd_same
      have A1 := hA.same s1
      have e1 := sExt s1
      have k1 := Kp.of (L := L) s1
      generalize upd H p (.tup (cutV [.str "not", ve] (some 1) none)) = H1 at hp1 A1 e1 k1 ⊢
      refine ⟨p, rfl, ⟨_, SqT.of hp1⟩, fun D hD => ?_⟩
      refine parts_W (n := n) (E := E) (σ := [some (.ref L.inf), some (.ref a), some vv, some (.int (m : Nat)), some (.str "not"), none, none, none]) (h := .not) (m := m) (es := [e]) (env := env) A1 hp1 (.cons (he.ext e1) .nil) (hv.ext e1) (fun x hx => ?_) (by simp) rfl rfl rfl rfl hD (h4.bind.kp k1) fun H2 s2 acc A2 k2 hDn hF => ?_
      · simp only [Exp.dep] at hd
        simp only [List.mem_cons, List.not_mem_nil, or_false] at hx
        subst hx
        omega
      · unfold Fin3 at hF
        obtain ⟨⟨t, s'⟩, hcmp, hF⟩ := hF.lift
        have s3 := same_new hDn (.lst (vN acc))
        have A3 := A2.same s3
        refine ⟨_, rfl, _, _, _, rfl, A3.oI, fI0 _ _ _ _ _ (by decide +kernel), _, rfl, _, rfl, _, rfl, L, s2, s', .not, acc, D, m, t, rfl, upd_same, A2.none_foot hDn, A3, hcmp, fun H4 v k4 A4 hv4 => ?_⟩
        exact hF H4 ((Kp.of s3).trans k4) v A4 hv4
    | call e f =>
      obtain ⟨a, ve, vf, rfl, ha, he, hf⟩ := he
      have h4 : Ends3 A L H E (R.bind (partsBy [judge e, judge f] env m s) fun p => lift (composed .call p.1 m p.2) fun q => some (some q)) _ := h3
      refine ⟨_, rfl, a, _, _, _, rfl, rfl, ha.sq, at0, ?_⟩
      refine ⟨_, rfl, _, _, rfl, rfl, hcn "call" (by decide +kernel), _, rfl, iteF ?_⟩
      refine ⟨_, rfl, rfl, _, rfl, ?_⟩
      rw [show decide (V.str "call" = V.str "name") = false by decide +kernel]
      refine iteF ⟨_, rfl, rfl, _, rfl, ?_⟩
      rw [show decide (V.str "call" = V.str "fun") = false by decide +kernel]
      refine iteF ⟨_, rfl, rfl, _, rfl, ?_⟩
      rw [show decide (V.str "call" = V.str "rec") = false by decide +kernel]
      refine iteF ⟨_, rfl, rfl, _, rfl, ?_⟩
      rw [show decide (V.str "call" = V.str "let") = false by decide +kernel]
      refine iteF ⟨_, rfl, rfl, _, rfl, ?_⟩
      rw [show decide (V.str "call" = V.str "ask") = false by decide +kernel]
      refine iteF ⟨_, rfl, rfl, _, rfl, ?_⟩
      rw [show decide (V.str "call" = V.str "handle") = false by decide +kernel]
      refine iteF ⟨_, rfl, rfl, _, rfl, ?_⟩
      rw [show decide (V.str "call" = V.str "op") = false by decide +kernel]
      refine iteF ?_
      refine ⟨_, rfl, _, rfl, a, _, rfl, ha.sq, (fun z => absurd z.1 (show ¬ HT.sIx 3 0 (some 1) = 0 by decide)), fun p hp => ?_⟩
      have s1 := same_new hp (.tup (cutV [.str "call", ve, vf] (some 1) none))
      have hp1 : (upd H p (.tup (cutV [.str "call", ve, vf] (some 1) none))) p = some (.tup [ve, vf]) := upd_same
      have A1 := hA.same s1
      have e1 := sExt s1
      have k1 := Kp.of (L := L) s1
      generalize upd H p (.tup (cutV [.str "call", ve, vf] (some 1) none)) = H1 at hp1 A1 e1 k1 ⊢
      refine ⟨p, rfl, ⟨_, SqT.of hp1⟩, fun D hD => ?_⟩
      refine parts_W (n := n) (E := E) (σ := [some (.ref L.inf), some (.ref a), some vv, some (.int (m : Nat)), some (.str "call"), none, none, none]) (h := .call) (m := m) (es := [e, f]) (env := env) A1 hp1 (.cons (he.ext e1) (.cons (hf.ext e1) .nil)) (hv.ext e1) (fun x hx => ?_) (by simp) rfl rfl rfl rfl hD (h4.bind.kp k1) fun H2 s2 acc A2 k2 hDn hF => ?_
      · simp only [Exp.dep] at hd
        simp only [List.mem_cons, List.not_mem_nil, or_false] at hx
        rcases hx with rfl | rfl <;> omega
      · unfold Fin3 at hF
        obtain ⟨⟨t, s'⟩, hcmp, hF⟩ := hF.lift
        have s3 := same_new hDn (.lst (vN acc))
        have A3 := A2.same s3
        refine ⟨_, rfl, _, _, _, rfl, A3.oI, fI0 _ _ _ _ _ (by decide +kernel), _, rfl, _, rfl, _, rfl, L, s2, s', .call, acc, D, m, t, rfl, upd_same, A2.none_foot hDn, A3, hcmp, fun H4 v k4 A4 hv4 => ?_⟩
        exact hF H4 ((Kp.of s3).trans k4) v A4 hv4
end
end K9
/-! The induction; Inferrer.__init__; Rows.least. -/
namespace K9
open PySem L2
theorem dep_pos (e : Exp) : 1 ≤ e.dep := by cases e <;> simp [Exp.dep]
section
variable {P : Program} {w : World} {K : PySem.W.Frag} {mg : Str → Option Value} {base : Heap} {A : Adr}
theorem ok_rec (T : Txt P w K mg A) : ∀ n : Nat, FnOk P w K mg base (L2.CX P w) (66 + 4 * n) A.iV.a A.iV.d ["self", "expression", "env"] (spVisit K A n) ∧ FnOk P w K mg base (L2.CX P w) (67 + 4 * n) A.iP.a A.iP.d ["self", "expression", "env", "number"] (spPart K A n)
  | 0 => by
    have no : ∀ vs H Q E, ¬ spVisit K A 0 vs H Q E := fun vs H Q E ⟨L, s, e, env, ve, vv, _, _, _, _, h, _⟩ => by have := dep_pos e; omega
    have no' : ∀ vs H Q E, ¬ spPart K A 0 vs H Q E := fun vs H Q E ⟨L, s, e, env, ve, vv, m, _, _, _, _, h, _⟩ => by have := dep_pos e; omega
    exact ⟨⟨fun vs H Q E h => absurd h (no vs H Q E), fun A outer s H args us vs Q E _ _ _ _ h => absurd h (no vs H Q E)⟩, ⟨fun vs H Q E h => absurd h (no' vs H Q E), fun A outer s H args us vs Q E _ _ _ _ h => absurd h (no' vs H Q E)⟩⟩
  | n + 1 => by
    obtain ⟨GV, GP⟩ := ok_rec T n
    have GG := ok_function T (show 64 ≤ 66 + 4 * n by omega) GV
    have GJ := ok_judged T (show 65 ≤ 67 + 4 * n by omega) GP (GG.mono (by omega))
    have GV' := (ok_visit T (show 64 ≤ 67 + 4 * n + 1 by omega) GJ).mono (show 67 + 4 * n + 1 + 1 ≤ 66 + 4 * (n + 1) by omega)
    exact ⟨GV', (ok_part T (show 64 ≤ 66 + 4 * (n + 1) by omega) GV').mono (by omega)⟩
theorem ok_Iinit (T : Txt P w K mg A) : FnOk P w K mg base CX0 5 A.iI.a A.iI.d ["self", "operations"] (spIinit A) := by
  have GS := (ok_sigs (base := base) T).mono (show 1 ≤ 4 by omega)
  have GK := (ok_Kinit (base := base) T)
  refine T.tI.I.F.ok (k := 4) scIi (fun vs H Q E h => ?_) (fun cdv A0 outer s0 H vs Q E hr h => ?_)
  · obtain ⟨p, dx, t, rfl, _⟩ := h
    rfl
  · obtain ⟨p, dx, t, rfl, hp, ht, k⟩ := h
    refine ⟨_, pss_cons (ps_fld (pv 0) (pe_call GS hr rfl T.tI.s.g T.tI.s.F.kp T.tI.s.b .nil pass0 (pa_cons (pv 1) pa_nil)) rfl)
      (pss_cons (ps_fld (pv 0) (pe_make0 T.tK.mm GK hr rfl T.tK.g T.tK.I.b .nil pass0) rfl)
      (pss_cons (ps_fld (pv 0) (pe_fld (pe_fld (pv 0) rfl) rfl) rfl)
      (pss_cons (ps_fld (pv 0) (pe_lst pa_nil) rfl)
      (pss_one (ps_fld (pv 0) (pe_lst pa_nil) rfl))))), ?_⟩
    refine ⟨_, rfl, t, rfl, ht, fun sg hsg => ?_⟩
    have psg : p ≠ sg := ne_of_none hp hsg
    have hp1 : (upd H sg (.dK [])) p = some (.ins A.cI dx []) := by rw [upd_ne psg]; exact hp
    refine ⟨_, rfl, p, A.cI, dx, [], rfl, hp1, T.tI.cl, T.tI.ns, (by show 0 < 1000; decide), ?_⟩
    rw [pf1]
    have f1 : ∀ {q : Addr}, upd (upd H sg (.dK [])) p (.ins A.cI dx [("signatures", .ref sg)]) q = none → H q = none ∧ q ≠ p := fun {q} z => by
      have h1 : q ≠ p := fun e => by rw [e, upd_same] at z; cases z
      rw [upd_ne h1] at z
      have h2 : q ≠ sg := fun e => by rw [e, upd_same] at z; cases z
      rw [upd_ne h2] at z
      exact ⟨z, h1⟩
    have hp2 : upd (upd H sg (.dK [])) p (.ins A.cI dx [("signatures", .ref sg)]) p = some (.ins A.cI dx [("signatures", .ref sg)]) := upd_same
    have k2 : ∀ d o, H d = some o → d ≠ p → upd (upd H sg (.dK [])) p (.ins A.cI dx [("signatures", .ref sg)]) d = some o := fun d o e hd => by rw [upd_ne hd, upd_ne (ne_of_none e hsg)]; exact e
    generalize upd (upd H sg (.dK [])) p (.ins A.cI dx [("signatures", .ref sg)]) = H2 at f1 hp2 k2 ⊢
    -- self.kinds = Kinds()
    intro x dK nx ndx nex
    have xp : p ≠ x := ne_of_none hp2 nx
    refine ⟨x, dK, rfl, upd_same, fun r dR a b c m H3 hr' ha hb hc hm ab ac bc ma mb mc h1 h2 h3 h4 h5 h6 kp => ⟨rfl, ?_⟩⟩
    have up : ∀ {q : Addr}, (upd (upd H2 dK (.own x)) x (.ins A.cK dK [])) q = none → H2 q = none := fun {q} z => by
      by_cases e1 : q = x
      · rw [e1, upd_same] at z; cases z
      · rw [upd_ne e1] at z
        by_cases e2 : q = dK
        · rw [e2, upd_same] at z; cases z
        · rw [upd_ne e2] at z; exact z
    have k3 : ∀ d o, H2 d = some o → H3 d = some o := fun d o e => kp d o (by rw [upd_ne (ne_of_none e nx), upd_ne (ne_of_none e ndx)]; exact e) (ne_of_none e nx)
    have hp3 := k3 _ _ hp2
    have ga := f1 (up ha)
    have gb := f1 (up hb)
    have gc := f1 (up hc)
    have gm := f1 (up hm)
    have rp : r ≠ p := fun e => by
      rw [e, hp3] at h2
      have z := congrArg List.length (HO.ins.inj (Option.some.inj h2)).2.2
      simp at z
    refine ⟨_, rfl, p, A.cI, dx, _, rfl, hp3, T.tI.cl, T.tI.nk, (by show 1 < 1000; decide), ?_⟩
    rw [pfc (by decide +kernel), pf1]
    -- self.rows = self.kinds.rows
    refine ⟨_, rfl, p, A.cI, dx, _, .ref x, rfl, upd_same, T.tI.cl, T.tI.nk, ((lkc (by decide +kernel)).trans lk0), x, _, _, _, _, rfl, (by rw [upd_ne xp.symm]; exact h1), T.tK.cl, T.tK.nr, fKr _ _, ?_⟩
    refine ⟨_, rfl, p, A.cI, dx, _, rfl, upd_same, T.tI.cl, T.tI.nr, (by show 2 < 1000; decide), ?_⟩
    rw [pfc (by decide +kernel), pfc (by decide +kernel), pf1, upd_upd]
    -- self.types = []
    refine ⟨(by show 0 ≤ sizeLine; decide), fun lt hlt => ?_⟩
    have tp : lt ≠ p := fun e => by rw [e, upd_same] at hlt; cases hlt
    rw [upd_ne tp] at hlt
    refine ⟨_, rfl, p, A.cI, dx, _, rfl, (by rw [upd_ne tp.symm]; exact upd_same), T.tI.cl, T.tI.nt, (by show 3 < 1000; decide), ?_⟩
    rw [pfc (by decide +kernel), pfc (by decide +kernel), pfc (by decide +kernel), pf1]
    -- self.own_rows = []
    refine ⟨(by show 0 ≤ sizeLine; decide), fun lo hlo => ?_⟩
    have op : lo ≠ p := fun e => by rw [e, upd_same] at hlo; cases hlo
    rw [upd_ne op] at hlo
    have ot : lo ≠ lt := fun e => by rw [e, upd_same] at hlo; cases hlo
    rw [upd_ne ot, upd_ne op] at hlo
    refine ⟨_, rfl, p, A.cI, dx, _, rfl, (by rw [upd_ne op.symm]; exact upd_same), T.tI.cl, T.tI.no, (by show 4 < 1000; decide), ?_⟩
    rw [pfc (by decide +kernel), pfc (by decide +kernel), pfc (by decide +kernel), pfc (by decide +kernel), pf1]
    have n3 : ∀ {q : Addr}, H3 q = none → H q = none := fun {q} z => by
      cases e : H q with
      | none => rfl
      | some o =>
        by_cases hq : q = p
        · rw [hq, hp3] at z; cases z
        · rw [k3 _ _ (k2 q o e hq)] at z; cases z
    have lst : ∀ {q : Addr}, H3 q = some (.lst []) → q ≠ p → q ≠ lt → q ≠ lo → (upd (upd (upd (upd (upd H3 p (.ins A.cI dx [("signatures", V.ref sg), ("kinds", V.ref x), ("rows", V.ref r)])) lt (.lst [])) p (.ins A.cI dx [("signatures", V.ref sg), ("kinds", V.ref x), ("rows", V.ref r), ("types", V.ref lt)])) lo (.lst [])) p (.ins A.cI dx [("signatures", V.ref sg), ("kinds", V.ref x), ("rows", V.ref r), ("types", V.ref lt), ("own_rows", V.ref lo)])) q = some (.lst []) := fun {q} e e1 e2 e3 => by
      rw [upd_ne e1, upd_ne e3, upd_ne e1, upd_ne e2, upd_ne e1]; exact e
    have oth : ∀ {q : Addr} {o : HO}, H3 q = some o → q ≠ p → (upd (upd (upd (upd (upd H3 p (.ins A.cI dx [("signatures", V.ref sg), ("kinds", V.ref x), ("rows", V.ref r)])) lt (.lst [])) p (.ins A.cI dx [("signatures", V.ref sg), ("kinds", V.ref x), ("rows", V.ref r), ("types", V.ref lt)])) lo (.lst [])) p (.ins A.cI dx [("signatures", V.ref sg), ("kinds", V.ref x), ("rows", V.ref r), ("types", V.ref lt), ("own_rows", V.ref lo)])) q = some o := fun {q o} e e1 => by
      rw [upd_ne e1, upd_ne (ne_of_none e hlo), upd_ne e1, upd_ne (ne_of_none e hlt), upd_ne e1]; exact e
    have nt : ∀ {q : Addr} {o : HO}, H3 q = some o → q ≠ lt := fun e => ne_of_none e hlt
    have no : ∀ {q : Addr} {o : HO}, H3 q = some o → q ≠ lo := fun e => ne_of_none e hlo
    refine k ⟨p, x, r, sg, lt, m, lo, a, b, c, dx, dK, dR⟩ _ rfl rfl ?_ ?_ upd_same ?_ ?_ ?_ ?_
    · intro q hq
      simp only [Lay.foot, List.mem_cons, List.not_mem_nil, or_false] at hq
      rcases hq with rfl | rfl | rfl | rfl | rfl | rfl
      · exact n3 hlt
      · exact gm.1
      · exact n3 hlo
      · exact ga.1
      · exact gb.1
      · exact gc.1
    · simp only [Lay.foot, List.nodup_cons, List.mem_cons, List.not_mem_nil, or_false, not_or, List.nodup_nil, and_true, not_false_eq_true]
      exact ⟨⟨(nt h6).symm, ot.symm, (nt h3).symm, (nt h4).symm, (nt h5).symm⟩, ⟨no h6, ma, mb, mc⟩, ⟨(no h3).symm, (no h4).symm, (no h5).symm⟩, ⟨ab, ac⟩, bc⟩
    · exact oth h1 xp.symm
    · exact oth h2 rp
    · intro q hq
      simp only [Lay.foot, List.mem_cons, List.not_mem_nil, or_false] at hq
      rcases hq with rfl | rfl | rfl | rfl | rfl | rfl
      · rw [upd_ne tp, upd_ne ot.symm, upd_ne tp, upd_same]
      · exact oth h6 gm.2
      · rw [upd_ne op, upd_same]
      · exact oth h3 ga.2
      · exact oth h4 gb.2
      · exact oth h5 gc.2
    · intro d o e hd
      exact oth (k3 _ _ (k2 d o e hd)) hd
end
end K9
/-! Rows.least, where no row has a name. -/
namespace K9
open PySem L2
def spRleast (K : PySem.W.Frag) (A : Adr) : Sp := fun vs H Q _ => ∃ (L : Lay) (s : S), vs = [.ref L.rw] ∧ At K A.toCl L H s ∧ rootsOk s.links = true ∧ flowsOk s.links s.flows = true ∧ s.links.length < 1000 ∧ ∀ H' r, Same H H' → H r = none → RowsAt K H' r s.links.length → Q (.ref r) H'
theorem root_of {links : List Nat} (h : rootsOk links = true) {i : Nat} (hi : i < links.length) : ∃ q, root links 10 i = some q := by
  unfold rootsOk at h
  have z := List.all_eq_true.mp h i (List.mem_range.mpr hi)
  exact Option.isSome_iff_exists.mp z
theorem flow_of {links : List Nat} {l : List (Nat × Nat)} (h : flowsOk links l = true) {p : Nat × Nat} (hp : p ∈ l) : (∃ q, root links 10 p.1 = some q) ∧ ∃ q, root links 10 p.2 = some q := by
  unfold flowsOk at h
  have z := List.all_eq_true.mp h p hp
  simp only [Bool.and_eq_true] at z
  exact ⟨Option.isSome_iff_exists.mp z.1, Option.isSome_iff_exists.mp z.2⟩
/-- n empty dicts in a list -/
def Dicts (H : Hp) (D : Addr) (n : Nat) : Prop := ∃ acc, H D = some (.lst acc) ∧ acc.length = n ∧ ∀ v ∈ acc, ∃ b, v = .ref b ∧ H b = some (.dK [])
theorem Dicts.same {H H' : Hp} {D : Addr} {n : Nat} (h : Dicts H D n) (k : Same H H') : Dicts H' D n := by
  obtain ⟨acc, h1, h2, h3⟩ := h
  exact ⟨acc, k _ _ h1, h2, fun v hv => by obtain ⟨b, e1, e2⟩ := h3 v hv; exact ⟨b, e1, k _ _ e2⟩⟩
theorem Dicts.get {H : Hp} {D : Addr} {n i : Nat} (h : Dicts H D n) (hi : i < n) : ∃ acc b, H D = some (.lst acc) ∧ acc[i]? = some (.ref b) ∧ H b = some (.dK []) := by
  obtain ⟨acc, h1, h2, h3⟩ := h
  have hi' : i < acc.length := by omega
  obtain ⟨b, e1, e2⟩ := h3 _ (List.getElem_mem hi')
  exact ⟨acc, b, h1, by rw [List.getElem?_eq_getElem hi', e1], e2⟩
abbrev NL : List Str := ["self", "found", "row", "names", "name", "changed", "source", "target", "without", "goal", "_"]
abbrev rTupl (K : PySem.W.Frag) : List V → Hp → VK → Prop := fun xs H Q => ∃ (p : Addr) (ys : List V), xs = [.ref p] ∧ ((SqL K H p ys ∧ ∀ l, H l = none → Q (.ref l) (upd H l (.tup ys))) ∨ (SqT K H p ys ∧ Q (.ref p) H))
abbrev rSrtd : List V → Hp → VK → Prop := fun xs H Q => ∃ (a : Addr) (kvs : List (Key × V)) (ks : List Str), xs = [.ref a] ∧ Rd H a (.dK kvs) ∧ kvs.map (·.1) = ks.map Sum.inr ∧ ks.length < 64 ∧ ∀ (ys : List Str) p, ys.Perm ks → PyProof.Rows.sortedS ys = true → H p = none → Q (.ref p) (upd H p (.lst (ys.map V.str)))
section
variable {P : Program} {w : World} {K : PySem.W.Frag} {mg : Str → Option Value} {base : Heap} {A : Adr}
theorem scRL : FnScope NL ["self"] (defScope sRleast) := ⟨rfl, rfl, rfl, by decide +kernel, rfl, by decide +kernel, by decide +kernel⟩
theorem ok_Rleast (T : Txt P w K mg A) : FnOk P w K mg base CX0 2 A.rL.a A.rL.d ["self"] (spRleast K A) := by
  have GT := ok_Rroot (base := base) T
  refine T.tR.L.F.ok (k := 1) scRL (fun vs H Q E h => ?_) (fun cdv A0 outer s0 H vs Q E hr h => ?_)
  · obtain ⟨L, s, rfl, _⟩ := h
    rfl
  · obtain ⟨L, s, rfl, hA, hro, hfo, hlt, q⟩ := h
    obtain ⟨nv, hn, hnl, hnn⟩ := hA.names
    obtain ⟨fv, hf, hfl⟩ := hA.flows
    refine ⟨_, pss_cons (ps_set (i := 1) scRL.nd rfl (Or.inr rfl) (pe_lc (own := [("_", 10)]) (g := gName 10) (tt := tYes) (te := fun _ H Q => ∀ d, H d = none → Q (.ref d) (upd H d (.dK []))) rfl scRL.nd (pi_list (pe_fld (pv 0) rfl)) (blkOk_by (N := NL) (sc := defScope sRleast) (by decide +kernel))
        (fun _ _ _ _ _ => pg_name (i := 10) scRL.nd rfl (Or.inl rfl)) (fun _ _ _ _ _ => pts_nil) (fun _ _ _ _ _ => pe_dnewK)))
      (pss_cons (ps_for PassesOwn.never rfl (pi_enum (by rfl) T.tB.enu (pa_cons (pe_fld (pv 0) rfl) pa_nil)) (pg_tup rfl (pgs_cons (pg_name (i := 2) scRL.nd rfl (Or.inl rfl)) (pgs_cons (pg_name (i := 3) scRL.nd rfl (Or.inl rfl)) pgs_nil)))
        (pss_one (ps_for PassesOwn.never rfl (pi_list (pv 3)) (pg_name (i := 4) scRL.nd rfl (Or.inl rfl)) pss_never)))
      (pss_cons (ps_set (i := 5) scRL.nd rfl (Or.inl rfl) pe_bl)
      (pss_cons (ps_while PassesOwn.never (pt_val (pv 5))
        (pss_cons (ps_set (i := 5) scRL.nd rfl (Or.inl rfl) pe_bl)
        (pss_one (ps_for PassesOwn.never rfl (pi_list (pe_fld (pv 0) rfl)) (pg_tup rfl (pgs_cons (pg_name (i := 6) scRL.nd rfl (Or.inl rfl)) (pgs_cons (pg_name (i := 7) scRL.nd rfl (Or.inl rfl)) (pgs_cons (pg_name (i := 8) scRL.nd rfl (Or.inl rfl)) pgs_nil))))
          (pss_cons (ps_set (i := 9) scRL.nd rfl (Or.inl rfl) (pe_ix ix_list (pv 1) (pe_meth (pv 0) T.tR.cl T.tR.T.m GT hr T.tR.T.b .nil pass0 (pa_cons (pv 7) pa_nil)) (fun _ _ => rfl)))
          (pss_one (ps_for PassesOwn.never rfl (pi_list (pe_callTy (call_listD rfl) (by rfl) T.tB.lst (by decide +kernel) (pa_cons (pe_ix ix_list (pv 1) (pe_meth (pv 0) T.tR.cl T.tR.T.m GT hr T.tR.T.b .nil pass0 (pa_cons (pv 6) pa_nil)) (fun _ _ => rfl)) pa_nil))) (pg_name (i := 4) scRL.nd rfl (Or.inl rfl)) pss_never)))))))
      (pss_one (ps_ret (pe_lc (own := [("row", 2)]) (g := gName 2) (tt := tYes) (te := tCB (rTupl K) (tCons (tCB rSrtd (tCons (tOp (rIxL K) (tVar 1) (tMeth A.cR "root" (spRroot K A) [] E0 (tVar 0) (tCons (tVar 2) tNil))) tNil)) tNil)) rfl scRL.nd
        (pi_range1 (by rfl) T.tB.rng (pa_cons (pe_callB call_len_seq (by rfl) T.tB.len PySem.boot_len (pa_cons (pe_fld (pv 0) rfl) pa_nil)) pa_nil)) (blkOk_by (N := NL) (sc := defScope sRleast) (by decide +kernel))
        (fun _ _ _ _ _ => pg_name (i := 2) scRL.nd rfl (Or.inl rfl)) (fun _ _ _ _ _ => pts_nil)
        (fun _ _ _ _ _ => pe_callTy call_tuple_of (by rfl) T.tB.tup (by decide +kernel) (pa_cons (pe_callB (call_sortedD rfl) (by rfl) T.tB.srt (by decide +kernel) (pa_cons (pe_ix ix_list (pv 1) (pe_meth (pv 0) T.tR.cl T.tR.T.m GT hr T.tR.T.b .nil pass0 (pa_cons (pv 2) pa_nil)) (fun _ _ => rfl)) pa_nil)) pa_nil)))))))), ?_⟩
    -- found = [{} for _ in self.links]
    refine ⟨_, rfl, _, _, _, _, _, rfl, hA.oR, T.tR.cl, T.tR.nl, fRl _ _ _, L.ll, rfl, ⟨_, SqL.of hA.links⟩, fun D hD => lc_list (K := K) (a := L.ll) (xs := vN s.links) (g := gName 10) (tt := tYes) (te := fun _ H Q => ∀ d, H d = none → Q (.ref d) (upd H d (.dK []))) (vs := [10]) (σ := start NL [.ref L.rw]) (fun i H2 => Dicts H2 D i ∧ Same H H2) ⟨⟨[], upd_same, rfl, fun v hv => by cases hv⟩, same_new hD _⟩
      (fun i H2 _ ⟨_, k⟩ => SqL.of (k _ _ hA.links)) ?_ ?_⟩
    · rintro i x H2 hi ⟨⟨acc, h1, h2, h3⟩, k⟩
      refine ⟨rfl, fun d hd => ?_⟩
      have hdD : D ≠ d := ne_of_none h1 hd
      refine ⟨acc, (upd_ne hdD).trans h1, by rw [h2]; have := (List.getElem?_eq_some_iff.mp hi).1; rw [vN_length] at this; exact small9 (by omega), ⟨acc ++ [.ref d], upd_same, by simp [h2], fun v hv => ?_⟩, fun b o e => ?_⟩
      · rcases List.mem_append.mp hv with hv | hv
        · obtain ⟨b, e1, e2⟩ := h3 v hv
          have bD : b ≠ D := fun z => by rw [z, h1] at e2; cases e2
          exact ⟨b, e1, by rw [upd_ne bD, upd_ne (ne_of_none e2 hd)]; exact e2⟩
        · exact ⟨d, List.mem_singleton.mp hv, by rw [upd_ne hdD.symm]; exact upd_same⟩
      · have bD : b ≠ D := ne_of_none e hD
        rw [upd_ne bD, upd_ne (ne_of_none (k _ _ e) hd)]
        exact k _ _ e
    · rintro H1 ⟨hDs, k1⟩
      rw [vN_length] at hDs
      have A1 := hA.same k1
      -- for row, names in enumerate(self.names)
      refine ⟨_, rfl, _, _, _, _, _, rfl, A1.oR, T.tR.cl, T.tR.nn, fRn _ _ _, L.ln, nv, rfl, SqL.of (k1 _ _ hn), fun i m σ H2 => m = nv.length - i ∧ i ≤ nv.length ∧ (∃ o2 o3, σ = [some (.ref L.rw), some (.ref D), o2, o3, none, none, none, none, none, none, none]) ∧ Same H1 H2, ⟨_, rfl, Nat.zero_le _, ⟨none, none, rfl⟩, Same.refl _⟩, ?_⟩
      rintro i m σ H2 ⟨rfl, hi, ⟨o2, o3, rfl⟩, k2⟩
      by_cases hlt' : i < nv.length
      · right
        refine ⟨⟨nv, _, SqL.of (k2 _ _ (k1 _ _ hn)), List.getElem?_eq_getElem hlt'⟩, fun σ' H' => (∃ o2 o3, σ' = [some (.ref L.rw), some (.ref D), o2, o3, none, none, none, none, none, none, none]) ∧ Same H1 H', fun σ' H' ⟨z1, z2⟩ => ⟨nv.length - (i + 1), by omega, rfl, by omega, z1, z2⟩, ?_⟩
        rintro x H' ⟨T', y, rfl, hT, rfl, hy⟩
        have hy' := hy nv (SqL.of (k2 _ _ (k1 _ _ hn)))
        obtain ⟨b, rfl, hb, _⟩ := hnn y (List.mem_of_getElem? hy')
        have s3 := same_new hT (.tup [.int (i : Nat), .ref b])
        have hb3 := s3 _ _ (k2 _ _ (k1 _ _ hb))
        refine ⟨T', _, rfl, SqT.of upd_same, rfl, _, _, rfl, ?_⟩
        refine ⟨_, _, rfl, rfl, ?_⟩
        refine ⟨_, rfl, b, rfl, ⟨_, SqL.of hb3⟩, for_list (K := K) (a := b) (xs := []) (fun j σ H3 => j = 0 ∧ σ = [some (.ref L.rw), some (.ref D), some (.int (i : Nat)), some (.ref b), none, none, none, none, none, none, none] ∧ H3 = upd H2 T' (.tup [.int (i : Nat), .ref b])) ⟨rfl, rfl, rfl⟩ (fun j σ H3 _ ⟨_, _, e⟩ => by rw [e]; exact SqL.of hb3) (fun j x σ H3 hj => by cases hj) ?_⟩
        rintro σ H3 ⟨_, rfl, rfl⟩
        exact ⟨⟨_, _, rfl⟩, k2.trans s3⟩
      · left
        refine ⟨⟨nv, SqL.of (k2 _ _ (k1 _ _ hn)), by omega⟩, ?_⟩
        have k3 := k1.trans k2
        -- changed = True; while changed:
        refine ⟨fun m σ H3 => m ≤ 1 ∧ (∃ o2 o3 o4 o6 o7 o8 o9, σ = [some (.ref L.rw), some (.ref D), o2, o3, o4, some (.bl (m == 1)), o6, o7, o8, o9, none]) ∧ Same H1 H3, ⟨1, Nat.le_refl _, ⟨o2, o3, none, none, none, none, none, rfl⟩, k2⟩, ?_⟩
        rintro m σ H3 ⟨hm, ⟨o2, o3, o4, o6, o7, o8, o9, rfl⟩, k4⟩
        refine ⟨_, rfl, _, rfl, ?_⟩
        have D4 := hDs.same k4
        have A4 := A1.same k4
        by_cases h1 : m = 1
        · subst h1
          refine iteT ⟨fun σ H' => (∃ o2 o3 o4 o6 o7 o8 o9, σ = [some (.ref L.rw), some (.ref D), o2, o3, o4, some (.bl false), o6, o7, o8, o9, none]) ∧ Same H1 H', fun σ' H' z => ⟨0, by decide, by decide, z⟩, ?_⟩
          have hf4 := (k1.trans k4) _ _ hf
          refine ⟨_, rfl, _, _, _, _, _, rfl, A4.oR, T.tR.cl, T.tR.nf, fRf _ _ _, L.lf, rfl, ⟨fv, SqL.of hf4⟩, for_list (K := K) (a := L.lf) (xs := fv) (fun j σ H5 => (∃ o2 o3 o4 o6 o7 o8 o9, σ = [some (.ref L.rw), some (.ref D), o2, o3, o4, some (.bl false), o6, o7, o8, o9, none]) ∧ Same H1 H5) ⟨⟨o2, o3, o4, o6, o7, o8, o9, rfl⟩, k4⟩
            (fun j σ H5 _ ⟨_, z⟩ => SqL.of ((k1.trans z) _ _ hf)) ?_ (fun σ H5 z => z)⟩
          rintro j x σ H5 hj ⟨⟨o2, o3, o4, o6, o7, o8, o9, rfl⟩, k5⟩
          obtain ⟨p, hp, hx⟩ := hfl.get' hj
          obtain ⟨⟨qa, ha⟩, qb, hb⟩ := flow_of hfo (List.mem_of_getElem? hp)
          obtain ⟨fa, fw, rfl, hfa0⟩ := hx
          have hfa := hfa0.ext (sExt (k1.trans k5))
          have A5 := A1.same k5
          obtain ⟨acc, db, d1, d2, d3⟩ := (hDs.same k5).get (root_lt hb)
          refine ⟨fa, _, rfl, hfa.sq, rfl, _, _, rfl, _, _, rfl, _, _, rfl, rfl, ?_⟩
          refine ⟨_, rfl, _, rfl, _, _, _, rfl, A5.oR, fR0 _ _ _ (by decide +kernel), _, rfl, L, s, p.2, qb, rfl, A5, hb, D, acc, _, _, rfl, rfl, SqL.of d1, atI_nat d2, ?_⟩
          obtain ⟨acc', da, d1', d2', d3'⟩ := (hDs.same k5).get (root_lt ha)
          refine ⟨_, rfl, _, rfl, _, _, _, rfl, A5.oR, fR0 _ _ _ (by decide +kernel), _, rfl, L, s, p.1, qa, rfl, A5, ha, D, acc', _, _, rfl, rfl, SqL.of d1', atI_nat d2', da, [], rfl, .inl d3', fun e he => ?_⟩
          have s6 := same_new he (.lst [])
          refine ⟨e, rfl, ⟨[], SqL.of upd_same⟩, for_list (K := K) (a := e) (xs := []) (fun j σ H6 => (∃ o2 o3 o4 o6 o7 o8 o9, σ = [some (.ref L.rw), some (.ref D), o2, o3, o4, some (.bl false), o6, o7, o8, o9, none]) ∧ H6 = upd H5 e (.lst [])) ⟨⟨_, _, _, _, _, _, _, rfl⟩, rfl⟩
            (fun j σ H6 _ ⟨_, z⟩ => by rw [z]; exact SqL.of upd_same) (fun j x σ H6 hj => by cases hj) ?_⟩
          rintro σ H6 ⟨z, rfl⟩
          exact ⟨z, k5.trans s6⟩
        · have h0 : m = 0 := by omega
          subst h0
          refine iteF ?_
          have k6 := k1.trans k4
          refine ⟨_, rfl, _, _, _, _, _, rfl, A4.oR, T.tR.cl, T.tR.nl, fRl _ _ _, _, _, rfl, .inl (SqL.of A4.links), _, rfl, by omega, by rw [vN_length]; omega, fun G hG => lc_range (lo := 0) (n := (vN s.links).length) (vs := [2]) (g := gName 2) (tt := tYes) (fun i H5 => (∃ vs, H5 G = some (.lst vs) ∧ vs.length = i ∧ ∀ v ∈ vs, ∃ e, v = .ref e ∧ Tp K H5 e []) ∧ Same H3 H5) ⟨⟨[], upd_same, rfl, fun v hv => by cases hv⟩, same_new hG _⟩ ?_ ?_⟩
          · rintro i H5 hi ⟨⟨vs, g1, g2, g3⟩, k7⟩
            rw [vN_length] at hi
            rw [Int.zero_add]
            obtain ⟨q1, hq1⟩ := root_of hro hi
            obtain ⟨acc, da, d1, d2, d3⟩ := (D4.same k7).get (root_lt hq1)
            have A5 := A4.same k7
            refine ⟨rfl, ?_⟩
            refine ⟨_, rfl, _, rfl, _, _, _, rfl, A5.oR, fR0 _ _ _ (by decide +kernel), _, rfl, L, s, i, q1, rfl, A5, hq1, D, acc, _, _, rfl, rfl, SqL.of d1, atI_nat d2, da, [], [], rfl, .inl d3, rfl, by decide, fun ys p hperm _ hp => ?_⟩
            have e0 : ys = [] := hperm.eq_nil
            subst e0
            refine ⟨p, [], rfl, .inl ⟨SqL.of upd_same, fun l hl => ?_⟩⟩
            have pG : p ≠ G := (ne_of_none g1 hp).symm
            have gp : upd H5 p (.lst []) G = some (.lst vs) := (upd_ne pG.symm).trans g1
            have lG : G ≠ l := ne_of_none gp hl
            have sE := (same_new hp (.lst [])).trans (same_new hl (.tup []))
            have x1 : Ext H5 (upd (upd (upd H5 p (.lst [])) l (.tup [])) G (.lst (vs ++ [.ref l]))) := fun b ys e => by
              have bG : b ≠ G := fun z => by rw [z, g1] at e; cases e
              rw [upd_ne bG]
              exact sE _ _ e
            refine ⟨vs, (upd_ne lG).trans gp, by rw [g2]; exact small9 (by omega), ⟨vs ++ [.ref l], upd_same, by simp [g2], fun v hv => ?_⟩, fun b o e => ?_⟩
            · rcases List.mem_append.mp hv with hv | hv
              · obtain ⟨e, e1, e2⟩ := g3 v hv
                exact ⟨e, e1, e2.ext x1⟩
              · exact ⟨l, List.mem_singleton.mp hv, Tp.of ((upd_ne lG.symm).trans upd_same)⟩
            · have bG : b ≠ G := ne_of_none e hG
              rw [upd_ne bG]
              exact sE _ _ (k7 _ _ e)
          · rintro H5 ⟨⟨vs, g1, g2, g3⟩, k7⟩
            rw [vN_length] at g2
            have hG0 : H G = none := by
              cases hh : H G with
              | none => rfl
              | some o => rw [k6 _ _ hh] at hG; cases hG
            exact q _ G (k6.trans k7) hG0 ⟨vs, g1, g2, g3⟩
end
end K9
/-! infer. -/
namespace K9
open PySem L2
/-- the ends of infer, by the mirror's value -/
def InfE (K : PySem.W.Frag) (A : Adr) (H : Hp) (Q : VK) (E : XK) (x : R RT) : Prop := match x with
  | none => False
  | some none => ∀ H' d, Same H H' → H' d = some (.xd [("name", .str "types")]) → E (.ref A.cU) (some d) H'
  | some (some t) => ∀ H' p l l2 v vs, Same H H' → H' p = some (.tup [.ref l, .ref l2]) → H' l = some (.lst (v :: vs)) → RtAt K H' t v → Q (.ref p) H'
def spInfer (K : PySem.W.Frag) (A : Adr) : Sp := fun vs H Q E => ∃ (p t : Addr) (e : Exp) (ve : V), vs = [.ref p] ∧ H p = some (.tup [.str "program", .ref t, ve]) ∧ H t = some (.tup []) ∧ ExpAt K H e ve ∧ e.dep ≤ 25 ∧ InfE K A H Q E (infer e)
abbrev NF : List Str := ["program", "inferrer", "known", "rows", "types", "row"]
theorem sizes_drop {ms : Ms} {ts : List (Option Ty)} {j : Nat} {o : Option Ty} (h : ts[j]? = some o) : sizes ms (ts.drop j) = match o with | none => none | some t => lift (sz ms 30 t) fun k => if k ≤ 1000 then sizes ms (ts.drop (j + 1)) else some none := by
  obtain ⟨hj, e⟩ := List.getElem?_eq_some_iff.mp h
  rw [List.drop_eq_getElem_cons hj, e]
  cases o <;> rfl
theorem settled_get {ms : Ms} {nl : Nat} : ∀ {ts : List (Option Ty)} {l : List RT}, settled ms nl ts = some l → l.length = ts.length ∧ ∀ (i : Nat) (o : Option Ty), ts[i]? = some o → ∃ (t : Ty) (rt : RT), o = some t ∧ l[i]? = some rt ∧ res ms nl 30 t = some rt
  | [], l, h => by
    simp only [settled, Option.some.injEq] at h
    subst h
    exact ⟨rfl, fun i o e => by simp at e⟩
  | none :: _, l, h => by simp [settled] at h
  | some t :: ts, l, h => by
    simp only [settled] at h
    obtain ⟨x, hx, h⟩ := Option.bind_eq_some_iff.mp h
    obtain ⟨xs, hxs, h⟩ := Option.bind_eq_some_iff.mp h
    cases h
    obtain ⟨i1, i2⟩ := settled_get hxs
    refine ⟨by simp [i1], fun i o e => ?_⟩
    cases i with
    | zero =>
      simp at e
      exact ⟨t, x, e.symm, rfl, hx⟩
    | succ i => exact i2 i o (by simpa using e)
theorem same_kp {L : Lay} {H H1 H' : Hp} (s : Same H H1) (f : ∀ b ∈ L.foot, H b = none) (k : Kp L H1 H') : Same H H' := fun b o e => k b o (s b o e) fun hb => by rw [f b hb] at e; cases e
theorem At0 {K : PySem.W.Frag} {C : Cl} {L : Lay} {H : Hp} (o1 : H L.inf = some (.ins C.cI L.dI [("signatures", .ref L.sg), ("kinds", .ref L.kd), ("rows", .ref L.rw), ("types", .ref L.lt), ("own_rows", .ref L.lo)]))
    (o2 : H L.kd = some (.ins C.cK L.dK [("rows", .ref L.rw), ("meanings", .ref L.lm)])) (o3 : H L.rw = some (.ins C.cR L.dR [("links", .ref L.ll), ("names", .ref L.ln), ("flows", .ref L.lf)])) (f : ∀ b ∈ L.foot, H b = some (.lst [])) (n : L.foot.Nodup) : At K C L H S0 where
  oI := o1
  oK := o2
  oR := o3
  ts := ⟨[], f _ (by simp [Lay.foot]), .nil⟩
  ms := ⟨[], f _ (by simp [Lay.foot]), .nil⟩
  own := f _ (by simp [Lay.foot])
  links := f _ (by simp [Lay.foot])
  names := ⟨[], f _ (by simp [Lay.foot]), rfl, fun v hv => by cases hv⟩
  flows := ⟨[], f _ (by simp [Lay.foot]), .nil⟩
  nd := n
/-- what infer does behind the sizes -/
def infTail (s : S) : R RT := if (rootsOk s.links && flowsOk s.links s.flows && s.own.all (· < s.links.length) && decide (s.links.length < 1000) && decide (s.ts.length < 1000) && decide (s.own.length < 1000)) = true then
      lift (settled s.ms s.links.length s.ts) fun l => lift l.head? fun t => some (some t)
    else none
section
variable {P : Program} {w : World} {K : PySem.W.Frag} {mg : Str → Option Value} {base : Heap} {A : Adr}
theorem scIn : FnScope NF ["program"] (defScope sInfer) := ⟨rfl, rfl, rfl, by decide +kernel, rfl, by decide +kernel, by decide +kernel⟩
theorem ok_infer (T : Txt P w K mg A) : FnOk P w K mg base (L2.CX P w) 167 A.inf.a A.inf.d ["program"] (spInfer K A) := by
  have GI := (ok_Iinit (base := base) T).mono (show 5 ≤ 165 by omega)
  have GV := (ok_rec (base := base) T 25).1
  have GZ := (ok_Ksize (base := base) T 30).mono (show 31 ≤ 166 by omega)
  have GL := (ok_Rleast (base := base) T).mono (show 2 ≤ 166 by omega)
  have GT := (ok_Ksettled (base := base) T 30).mono (show 31 ≤ 166 by omega)
  obtain ⟨tz, hz⟩ := T.tI.z
  refine T.tI.q.F.okX (k := 166) scIn (fun vs H Q E h => ?_) (fun cdv A0 outer s0 H vs Q E hr h => ?_)
  · obtain ⟨p, t, e, ve, rfl, _⟩ := h
    rfl
  · obtain ⟨p, t, e, ve, rfl, hp, ht, he, hd, h3⟩ := h
    refine ⟨_, pss_cons (ps_set (i := 1) scIn.nd rfl (Or.inr rfl) (pe_make T.tI.mm GI hr rfl T.tI.g T.tI.I.b .nil pass0 (pa_cons (pe_ix ix_tup (pv 0) pe_int (fun _ _ => rfl)) pa_nil)))
      (pss_cons (ps_expr (pe_meth (pv 1) T.tI.cl T.tI.V.m GV hr T.tI.V.b .nil (passes_call (takes_of rfl rfl rfl rfl) (fun _ _ _ _ h => h)) (pa_cons (pe_ix ix_tup (pv 0) pe_int (fun _ _ => rfl)) (pa_cons pe_non pa_nil))))
      (pss_cons (ps_for (passes_of rfl) rfl (pi_list (pe_fld (pv 1) rfl)) (pg_name (i := 2) scIn.nd rfl (Or.inl rfl))
        (pss_one (ps_if (pt_cmpR op_lt (pe_meth (pe_fld (pv 1) rfl) T.tK.cl T.tK.Z.m GZ hr T.tK.Z.b .nil pass0 (pa_cons (pv 2) (pa_cons (pe_glob (v := V.int 1000) rfl hz ⟨_, rfl⟩) pa_nil))) pe_int (nomark _))
          (pss_one (ps_raise rfl (takes_of rfl rfl rfl rfl) (pmk_sup T.tU (hr.mono (by omega)) rfl T.gU (pa_cons pe_str pa_nil)))) pss_nil)))
      (pss_cons (ps_set (i := 3) scIn.nd rfl (Or.inr rfl) (pe_meth0 (pe_fld (pv 1) rfl) T.tR.cl T.tR.L.m GL hr T.tR.L.b .nil pass0))
      (pss_cons (ps_setLc (i := 4) (own := [("known", 2)]) (g := gName 2) (tt := tYes) (te := tMeth A.cK "settled" (spKsettled K A 30) [] E0 (tFld K (tVar 1) "kinds") (tCons (tVar 2) (tCons (tVar 3) tNil))) rfl scIn.nd rfl rfl (sw_true rfl rfl rfl (by decide +kernel)) (pi_list (pe_fld (pv 1) rfl)) (blkOk_by (N := NF) (sc := defScope sInfer) (by decide +kernel))
        (fun _ _ _ _ _ => pg_name (i := 2) scIn.nd rfl (Or.inl rfl)) (fun _ _ _ _ _ => pts_nil) (fun _ _ _ _ _ => pe_meth (pe_fld (pv 1) rfl) T.tK.cl T.tK.T.m GT hr T.tK.T.b .nil pass0 (pa_cons (pv 2) (pa_cons (pv 3) pa_nil))))
      (pss_one (ps_ret (pe_tup (pa_cons (pv 4) (pa_cons (pe_lc (own := [("row", 5)]) (g := gName 5) (tt := tYes) (te := tOp (rIxL K) (tVar 3) (tVar 5)) rfl scIn.nd (pi_list (pe_fld (pv 1) rfl)) (blkOk_by (N := NF) (sc := defScope sInfer) (by decide +kernel))
        (fun _ _ _ _ _ => pg_name (i := 5) scIn.nd rfl (Or.inl rfl)) (fun _ _ _ _ _ => pts_nil) (fun _ _ _ _ _ => pe_ix ix_list (pv 3) (pv 5) (fun _ _ => rfl))) pa_nil))))))))), ?_⟩
    refine ⟨_, rfl, p, _, _, _, rfl, rfl, SqT.of hp, at1, ?_⟩
    intro x dI nx ndx nex
    have s0' : Same H (upd (upd H dI (.own x)) x (.ins A.cI dI [])) := (same_new ndx _).trans (same_new (by first | (rw [upd_ne nex]; exact nx) | (rw [upd_ne nex.symm]; exact nx)) _)
    refine ⟨x, dI, t, rfl, upd_same, s0' _ _ ht, fun L H1 e1 e2 f0 nd o1 o2 o3 f1 kp => ⟨rfl, ?_⟩⟩
    have s1 : Same H H1 := fun b o e => kp b o (s0' b o e) (ne_of_none e nx)
    have f : ∀ b ∈ L.foot, H b = none := fun b hb => by
      cases e : H b with
      | none => rfl
      | some o => have z := f0 b hb; rw [s0' _ _ e] at z; cases z
    subst e1
    have hA : At K A.toCl L H1 S0 := At0 o1 o2 o3 f1 nd
    refine ⟨_, rfl, _, _, _, rfl, hA.oI, fI0 _ _ _ _ _ (by decide +kernel), _, rfl, p, _, _, _, rfl, rfl, SqT.of (s1 _ _ hp), at2, L, S0, e, [], ve, .non, rfl, hA, he.ext (sExt s1), rfl, hd, ?_⟩
    have h4 : InfE K A H Q E (R.bind (visitBy (judge e) [] S0) fun s => R.bind (sizes s.ms s.ts) fun _ => infTail s) := h3
    generalize visitBy (judge e) [] S0 = xv at h4 ⊢
    match xv, h4 with
    | none, h4 => exact h4
    | some none, h4 => exact fun H' d k hd' => h4 H' d (same_kp s1 f k) hd'
    | some (some s), h4 =>
      intro H2 k2 A2
      have h5 : InfE K A H Q E (R.bind (sizes s.ms (s.ts.drop 0)) fun _ => infTail s) := h4
      have s2 : Same H H2 := same_kp s1 f k2
      obtain ⟨tv, htv, htl⟩ := A2.ts
      refine ⟨_, rfl, _, _, _, _, _, rfl, A2.oI, T.tI.cl, T.tI.nt, fIt _ _ _ _ _, L.lt, rfl, ⟨_, SqL.of htv⟩, for_list (K := K) (a := L.lt) (xs := tv) (fun j σ H3 => (∃ o, σ = [some (.ref p), some (.ref L.inf), o, none, none, none]) ∧ Same H2 H3 ∧ InfE K A H Q E (R.bind (sizes s.ms (s.ts.drop j)) fun _ => infTail s))
        ⟨⟨none, rfl⟩, Same.refl _, h5⟩ (fun j σ H3 _ ⟨_, z, _⟩ => SqL.of (z _ _ htv)) ?_ ?_⟩
      · rintro j x σ H3 hj ⟨⟨o, rfl⟩, k3, h6⟩
        obtain ⟨ot, hot, hx⟩ := htl.get' hj
        rw [sizes_drop hot] at h6
        have A3 := A2.same k3
        cases ot with
        | none => exact absurd h6 (fun z => z)
        | some t =>
          dsimp only at h6
          cases hk : sz s.ms 30 t with
          | none => rw [hk] at h6; exact absurd h6 (fun z => z)
          | some kz =>
            rw [hk] at h6
            have h7 : InfE K A H Q E (R.bind (if kz ≤ 1000 then sizes s.ms (s.ts.drop (j + 1)) else some none) fun _ => infTail s) := h6
            refine ⟨_, rfl, _, _, _, _, _, rfl, A3.oI, T.tI.cl, T.tI.nk, fIk _ _ _ _ _, _, _, _, rfl, A3.oK, fK0 _ _ (by decide +kernel), _, rfl, L, _, t, kz, 1000, x, rfl, A3, TyAt.ext (sExt k3) hx, hk, fun H6 s6 => ?_⟩
            refine ⟨_, _, rfl, rfl, _, rfl, ?_⟩
            by_cases hc : kz ≤ 1000
            · rw [if_pos hc] at h7
              have e1 : decide (left 1000 kz < 0) = false := by
                unfold left
                rw [if_pos hc]
                exact decide_eq_false (by omega)
              rw [e1]
              exact iteF ⟨⟨_, rfl⟩, k3.trans s6, h7⟩
            · rw [if_neg hc] at h7
              have e1 : decide (left 1000 kz < 0) = true := by
                unfold left
                rw [if_neg hc]
                decide
              rw [e1]
              refine iteT ⟨_, rfl, fun d hd => ?_⟩
              exact h7 _ d (s2.trans (k3.trans (s6.trans (same_new hd _)))) upd_same
      · rintro σ H3 ⟨⟨o, rfl⟩, k3, h6⟩
        rw [htl.length, List.drop_length] at h6
        have h7 : InfE K A H Q E (infTail s) := h6
        unfold infTail at h7
        split at h7
        case isFalse => exact absurd h7 (fun z => z)
        case isTrue hc =>
        simp only [Bool.and_eq_true, decide_eq_true_eq] at hc
        obtain ⟨⟨⟨⟨⟨hro, hfo⟩, hown⟩, hlt⟩, lts⟩, lown⟩ := hc
        cases hl : settled s.ms s.links.length s.ts with
        | none => rw [hl] at h7; exact absurd h7 (fun z => z)
        | some l =>
        rw [hl] at h7
        cases l with
        | nil => exact absurd h7 (fun z => z)
        | cons t0 l =>
        have h8 : InfE K A H Q E (some (some t0)) := h7
        obtain ⟨gl, gg⟩ := settled_get hl
        have A3 := A2.same k3
        refine ⟨_, rfl, _, _, _, _, _, rfl, A3.oI, T.tI.cl, T.tI.nr, fIr _ _ _ _ _, _, _, _, rfl, A3.oR, fR0 _ _ _ (by decide +kernel), L, s, rfl, A3, hro, hfo, hlt, fun H4 r s4 hr4 hR => ?_⟩
        have A4 := A3.same s4
        have k4 := k3.trans s4
        have htv4 := k4 _ _ htv
        refine ⟨_, rfl, _, _, _, _, _, rfl, A4.oI, T.tI.cl, T.tI.nt, fIt _ _ _ _ _, L.lt, rfl, ⟨_, SqL.of htv4⟩, fun D hD => lc_list (K := K) (a := L.lt) (xs := tv) (g := gName 2) (tt := tYes) (te := tMeth A.cK "settled" (spKsettled K A 30) [] E0 (tFld K (tVar 1) "kinds") (tCons (tVar 2) (tCons (tVar 3) tNil))) (vs := [2]) (σ := [some (.ref p), some (.ref L.inf), o, some (.ref r), none, none])
          (fun i H5 => Same H4 H5 ∧ ∃ acc, H5 D = some (.lst acc) ∧ All2 (RtAt K H5) ((t0 :: l).take i) acc) ⟨same_new hD _, [], upd_same, .nil⟩ (fun i H5 _ ⟨z, _⟩ => SqL.of (z _ _ htv4)) ?_ ?_⟩
        · rintro i x H5 hi ⟨k5, acc, hD5, hacc⟩
          obtain ⟨ot, hot, hx⟩ := htl.get' hi
          obtain ⟨t, rt, rfl, hrt, hres⟩ := gg i ot hot
          have A5 := A4.same k5
          refine ⟨rfl, _, rfl, _, _, _, _, _, rfl, A5.oI, T.tI.cl, T.tI.nk, fIk _ _ _ _ _, _, _, _, rfl, A5.oK, fK0 _ _ (by decide +kernel), _, rfl, _, rfl, L, s, t, rt, s.links.length, x, r, rfl, A5, TyAt.ext (sExt (k4.trans k5)) hx, hR.same k5, hres, fun H6 v' s6 hv' => ?_⟩
          have la := hacc.length
          rw [List.length_take] at la
          have x1 : Ext H6 (upd H6 D (.lst (acc ++ [v']))) := fun b ys e => by
            have bD : b ≠ D := fun z => by rw [z, s6 _ _ hD5] at e; cases e
            rw [upd_ne bD]
            exact e
          refine ⟨acc, s6 _ _ hD5, small9 (by omega), fun b oo e => ?_, acc ++ [v'], upd_same, ?_⟩
          · rw [upd_ne (ne_of_none e hD)]
            exact s6 _ _ (k5 _ _ e)
          · have e1 : (t0 :: l).take (i + 1) = (t0 :: l).take i ++ [rt] := by
              rw [List.take_succ, hrt]
              rfl
            rw [e1]
            exact (hacc.imp fun _ _ z => RtAt.ext (fun b ys e => x1 _ _ (s6 _ _ e)) z).snoc (RtAt.ext x1 hv')
        · rintro H5 ⟨k5, acc, hD5, hacc⟩
          have A5 := A4.same k5
          rw [show tv.length = (t0 :: l).length by rw [htl.length, gl], List.take_length] at hacc
          cases hacc with
          | cons hv0 hrest =>
          obtain ⟨vs, r1, r2, r3⟩ := hR.same k5
          refine ⟨_, rfl, _, rfl, _, _, _, _, _, rfl, A5.oI, T.tI.cl, T.tI.no, fIo _ _ _ _ _, L.lo, rfl, ⟨_, SqL.of A5.own⟩, fun G hG => lc_list (K := K) (a := L.lo) (xs := vN s.own) (g := gName 5) (tt := tYes) (te := tOp (rIxL K) (tVar 3) (tVar 5)) (vs := [5]) (σ := [some (.ref p), some (.ref L.inf), o, some (.ref r), some (.ref D), none])
            (fun i H6 => ∃ acc, H6 = upd H5 G (.lst acc) ∧ acc.length = i) ⟨[], rfl, rfl⟩ (fun i H6 _ ⟨acc, e, _⟩ => by rw [e]; exact SqL.of (same_new hG _ _ _ A5.own)) ?_ ?_⟩
          · rintro i x H6 hi ⟨acc, rfl, hacc⟩
            obtain ⟨m, hm, rfl⟩ : ∃ m, s.own[i]? = some m ∧ x = V.int (m : Nat) := by
              rw [List.getElem?_map] at hi
              cases e : s.own[i]? with
              | none => rw [e] at hi; cases hi
              | some m => rw [e] at hi; exact ⟨m, rfl, (Option.some.inj hi).symm⟩
            have hml : m < vs.length := by
              have := List.all_eq_true.mp hown m (List.mem_of_getElem? hm)
              rw [r2]
              exact of_decide_eq_true this
            refine ⟨rfl, _, rfl, _, rfl, r, vs, _, _, rfl, rfl, SqL.of (same_new hG _ _ _ r1), atI_nat (List.getElem?_eq_getElem hml), acc, upd_same, small9 (by have := (List.getElem?_eq_some_iff.mp hm).1; omega), acc ++ [_], upd_upd, by simp [hacc]⟩
          · rintro H6 ⟨acc, rfl, hacc⟩
            refine ⟨(by show 2 ≤ sizeLine; decide), fun q hq => ?_⟩
            have s6 := (same_new hG (.lst acc)).trans (same_new hq (.tup [.ref D, .ref G]))
            exact h8 _ q D G _ _ (s2.trans (k4.trans (k5.trans s6))) upd_same (s6 _ _ hD5) (RtAt.ext (sExt s6) hv0)
end
end K9
/-! _law_told. -/
namespace K9
open PySem L2
/-- what the except clause and its suite ask of the classes -/
structure TxE (K : PySem.W.Frag) (mg : Str → Option Value) (A : Adr) : Prop where
  gF : mg "Refused" = some (.ref A.cF)
  gM : mg "Malformed" = some (.ref A.cM)
  te : PySem.W.exmOne K (.ref A.cU) (.ref A.cF) = some true
  kU : PySem.W.kitOne K (.ref A.cU) (.ref A.cU) = some true
  kM : PySem.W.kitOne K (.ref A.cU) (.ref A.cM) = some false
  eC : ExcC K A.cU
  xC : XfC K A.cU
/-- told, by the mirror's value -/
def ToldE (K : PySem.W.Frag) (H : Hp) (Q : VK) (x : R RT) : Prop := match x with
  | none => False
  | some none => ∀ H', Same H H' → Q (.str "types") H'
  | some (some t) => ∀ H' v, Same H H' → RtAt K H' t v → Q v H'
def spTold (K : PySem.W.Frag) : Sp := fun vs H Q _ => ∃ (e : Exp) (ve : V), vs = [ve] ∧ ExpAt K H e ve ∧ e.dep ≤ 25 ∧ ToldE K H Q (infer e)
abbrev NO : List Str := ["_law_expression", "e"]
abbrev tbTold (K : PySem.W.Frag) (A : Adr) (W : WX) : TS := tRet (tOp (rIxL K) (tOp (rIxT K) (tCallS (spInfer K A) (WE W) (tCons (tTup (tCons (tC (.str "program")) (tCons (tTup tNil) (tCons (tVar 0) tNil)))) tNil)) (tC (.int 0))) (tC (.int 0)))
abbrev tsTold (K : PySem.W.Frag) (A : Adr) (a : Addr) (cls : Value) (d : Option Addr) : TS :=
  tIfS (tAnd (tB (tCB (rIsED K A.cU a cls d) (tCons (tVar 1) (tCons (tC (.ref A.cU)) tNil)))) (tNot (tB (tCB (rIsED K A.cU a cls d) (tCons (tVar 1) (tCons (tC (.ref A.cM)) tNil)))))) (tRet (tXf a cls d A.cU "name" (tVar 1))) tNext
section
variable {P : Program} {w : World} {K : PySem.W.Frag} {mg : Str → Option Value} {base : Heap} {A : Adr}
theorem scTo : FnScope NO ["_law_expression"] (defScope sLtold) := ⟨rfl, rfl, rfl, by decide +kernel, rfl, by decide +kernel, by decide +kernel⟩
theorem ok_told (T : Txt P w K mg A) (TE : TxE K mg A) : FnOk P w K mg base CX0 168 A.qO.a A.qO.d ["_law_expression"] (spTold K) := by
  have GI := (ok_infer (base := base) T)
  refine T.tL.O.F.ok (k := 167) scTo (fun vs H Q E h => ?_) (fun cdv A0 outer s0 H vs Q E hr h => ?_)
  · obtain ⟨e, ve, rfl, _⟩ := h
    rfl
  · obtain ⟨e, ve, rfl, he, hd, h3⟩ := h
    refine ⟨_, pss_cons (ps_try_as (i := 1) (tb := tbTold K A) (ts := tsTold K A) (Wout := fun _ _ _ _ => False) rfl rfl scTo.nd rfl rfl ⟨rfl, by decide, Or.inl TE.gF⟩ takes0
        (fun W pn xe tk _ => pss_one (ps_ret (pe_ix ix_list (pe_ix ix_tup (pe_callS GI hr rfl T.tI.q.g T.tI.q.F.kp T.tI.q.b (fun σ => passAt tk σ) (pa_cons (pe_tup (pa_cons pe_str (pa_cons (pe_tup pa_nil) (pa_cons (pv 0) pa_nil)))) pa_nil)) pe_int (fun _ _ => rfl)) pe_int (fun _ _ => rfl))))
        (fun a oe cls d pn hz hf => pss_one (ps_if (PW.pt (pw_and (pt_val (pe_callB (call_isED TE.eC hz hf) (by rfl) T.tB.isi PyProof.Rows.boot_isinstance (pa_cons (pv 1) (pa_cons (pe_glob (v := V.ref A.cU) rfl T.gU rfl) pa_nil))))
            (pw_and1 (pt_not (pt_val (pe_callB (call_isED TE.eC hz hf) (by rfl) T.tB.isi PyProof.Rows.boot_isinstance (pa_cons (pv 1) (pa_cons (pe_glob (v := V.ref A.cM) rfl TE.gM rfl) pa_nil))))))))
          (pss_one (ps_ret (pe_xf TE.xC T.tU.nN hz hf (pv 1)))) pss_nil)))
      (pss_one (ps_ret pe_str)), ?_⟩
    refine ⟨(by show 0 ≤ sizeLine; decide), fun pt hpt => ?_⟩
    have s1 := same_new hpt (.tup [])
    refine ⟨_, rfl, (by show 3 ≤ sizeLine; decide), fun pp hpp => ?_⟩
    have s2 := same_new hpp (.tup [.str "program", .ref pt, ve])
    have s12 := s1.trans s2
    refine ⟨pp, pt, e, ve, rfl, upd_same, s2 _ _ upd_same, he.ext (sExt s12), hd, ?_⟩
    generalize infer e = xv at h3 ⊢
    match xv, h3 with
    | none, h3 => exact h3
    | some (some t), h3 =>
      intro H' q l l2 v vs k hq hl hv
      exact ⟨q, _, _, _, rfl, rfl, SqT.of hq, at0, l, _, _, _, rfl, rfl, SqL.of hl, at0, h3 H' v (s12.trans k) hv⟩
    | some none, h3 =>
      intro H' d k hdd
      refine ⟨true, TE.te, fun _ a ha => ?_, fun z => Bool.noConfusion z⟩
      refine ⟨_, rfl, .ref A.cU, .ref A.cU, true, d, _, rfl, rfl, fun u r => r, rfl, hdd, TE.kU, _, rfl, ?_⟩
      refine iteT ⟨_, rfl, .ref A.cM, .ref A.cM, false, d, _, rfl, rfl, fun u r => r, rfl, hdd, TE.kM, _, rfl, ?_⟩
      refine iteT ⟨_, rfl, rfl, rfl, d, _, _, rfl, hdd, lk0, ?_⟩
      exact h3 H' (s12.trans k)
end
end K9
/-! The law's helpers: _law_state, _law_take. -/
namespace K9
open PySem L2
/-- the state of the takes: at p the count and the cells, which stand at cl -/
structure LSt (H : Hp) (p cl : Addr) (c : Int) (cells : List Int) : Prop where
  p : H p = some (.lst [.int c, .ref cl])
  cl : H cl = some (.lst (cells.map V.int))
  ne : cells ≠ []
  nn : ∀ x ∈ cells, 0 ≤ x
  len : cells.length ≤ 63
  lo : 0 ≤ c
  hi : c ≤ 100
theorem LSt.same {H H' : Hp} {p cl : Addr} {c : Int} {cells : List Int} (h : LSt H p cl c cells) (s : Same H H') : LSt H' p cl c cells := ⟨s _ _ h.p, s _ _ h.cl, h.ne, h.nn, h.len, h.lo, h.hi⟩
def spState (K : PySem.W.Frag) : Sp := fun vs H Q _ => ∃ (a : Addr) (ns : List Int), vs = [.ref a] ∧ SqL K H a (ns.map V.int) ∧ ∀ H' p cl cells, LSt H' p cl 0 cells → Q (.ref p) H'
def spTake : Sp := fun vs H Q _ => ∃ (p cl : Addr) (c : Int) (cells : List Int) (m : Nat), vs = [.ref p, .int (m : Nat)] ∧ LSt H p cl c cells ∧ c < 100 ∧ 0 < m ∧ m < 1000 ∧
  ∀ H' (r : Nat) c' cells', Ext H H' → LSt H' p cl c' cells' → c' ≤ c + 1 → r < m → Q (.int (r : Nat)) H'
abbrev NS : List Str := ["_law_script", "_law_cells", "_law_cell"]
abbrev NT : List Str := ["_law_state_here", "_law_most", "_law_cells", "_law_at", "_law_cell", "_law_mixed"]
theorem cut63 (ns : List Int) : ∃ ms : List Int, cutV (ns.map V.int) none (some 63) = ms.map V.int ∧ ms.length ≤ 63 := by
  refine ⟨ns.take 63, ?_, by rw [List.length_take]; omega⟩
  unfold cutV
  rw [HT.sIx_none, show ((63 : Int)) = ((63 : Nat) : Int) from rfl, HT.sIx_nat, List.drop_zero, Nat.sub_zero, List.map_take, List.length_map]
  by_cases h : 63 ≤ ns.length
  · rw [Nat.min_eq_left h]
  · rw [Nat.min_eq_right (by omega), List.take_of_length_le (by simp), List.take_of_length_le (by rw [List.length_map]; omega)]
abbrev rAbs : List V → Hp → VK → Prop := fun xs H Q => ∃ i, xs = [.int i] ∧ Q (.int (if i < 0 then -i else i)) H
section
variable {P : Program} {w : World} {K : PySem.W.Frag} {mg : Str → Option Value} {base : Heap} {A : Adr}
theorem scSt : FnScope NS ["_law_script"] (defScope sLstate) := ⟨rfl, rfl, rfl, by decide +kernel, rfl, by decide +kernel, by decide +kernel⟩
theorem scTk : FnScope NT ["_law_state_here", "_law_most"] (defScope sLtake) := ⟨rfl, rfl, rfl, by decide +kernel, rfl, by decide +kernel, by decide +kernel⟩
theorem ok_state (T : Txt P w K mg A) : FnOk P w K mg base CX0 1 A.qS.a A.qS.d ["_law_script"] (spState K) := by
  refine T.tL.S.F.ok scSt (fun vs H Q E h => ?_) (fun cdv A0 outer s0 H vs Q E hr h => ?_)
  · obtain ⟨a, ns, rfl, _⟩ := h
    rfl
  · obtain ⟨a, ns, rfl, ha, q⟩ := h
    refine ⟨_, pss_cons (ps_setLc (i := 1) (own := [("_law_cell", 2)]) (g := gName 2) (tt := tYes) (te := tCB rAbs (tCons (tVar 2) tNil)) rfl scSt.nd rfl rfl (sw_true rfl rfl rfl (by decide +kernel)) (pi_list (pe_slice sl_list (pv 0) po_none (po_some pe_int))) (blkOk_by (N := NS) (sc := defScope sLstate) (by decide +kernel))
        (fun _ _ _ _ _ => pg_name (i := 2) scSt.nd rfl (Or.inl rfl)) (fun _ _ _ _ _ => pts_nil) (fun _ _ _ _ _ => pe_callB call_abs (by rfl) T.tB.abs (by decide +kernel) (pa_cons (pv 2) pa_nil)))
      (pss_cons (ps_if (pt_cmpR op_eq (pe_callB call_len_seq (by rfl) T.tB.len PySem.boot_len (pa_cons (pv 1) pa_nil)) pe_int (nomark _)) (pss_one (ps_set (i := 1) scSt.nd rfl (Or.inl rfl) (pe_lst (pa_cons pe_int pa_nil)))) pss_nil)
      (pss_one (ps_ret (pe_lst (pa_cons pe_int (pa_cons (pv 1) pa_nil)))))), ?_⟩
    obtain ⟨ms, hms, hml⟩ := cut63 ns
    refine ⟨_, rfl, _, rfl, a, _, rfl, ha, fun b hb => ?_⟩
    rw [hms]
    have s1 := same_new hb (.lst (ms.map V.int))
    refine ⟨b, rfl, ⟨_, SqL.of upd_same⟩, fun D hD => lc_list (K := K) (a := b) (xs := ms.map V.int) (g := gName 2) (tt := tYes) (te := tCB rAbs (tCons (tVar 2) tNil)) (vs := [2]) (σ := start NS [.ref a])
      (fun i H2 => ∃ acc : List Int, H2 = upd (upd H b (.lst (ms.map V.int))) D (.lst (acc.map V.int)) ∧ acc.length = i ∧ ∀ x ∈ acc, 0 ≤ x) ⟨[], rfl, rfl, fun x hx => by cases hx⟩ (fun i H2 _ ⟨acc, e, _⟩ => by rw [e]; exact SqL.of (same_new hD _ _ _ upd_same)) ?_ ?_⟩
    · rintro i x H2 hi ⟨acc, rfl, hacc, hnn⟩
      rw [List.getElem?_map] at hi
      obtain ⟨m, hm, rfl⟩ := Option.map_eq_some_iff.mp hi
      have hlt := (List.getElem?_eq_some_iff.mp hm).1
      refine ⟨rfl, _, rfl, m, rfl, acc.map V.int, upd_same, by rw [List.length_map]; exact small9 (by omega), acc ++ [if m < 0 then -m else m], by rw [upd_upd, List.map_append]; rfl, by simp [hacc], fun x hx => ?_⟩
      rcases List.mem_append.mp hx with hx | hx
      · exact hnn x hx
      · rw [List.mem_singleton.mp hx]
        split <;> omega
    · rintro H2 ⟨acc, rfl, hacc, hnn⟩
      rw [List.length_map] at hacc
      have hDl : (upd (upd H b (.lst (ms.map V.int))) D (.lst (acc.map V.int))) D = some (.lst (acc.map V.int)) := upd_same
      generalize upd (upd H b (.lst (ms.map V.int))) D (.lst (acc.map V.int)) = H3 at hDl
      have fin : ∀ (cl : Addr) (cells : List Int) (H4 : Hp), H4 cl = some (.lst (cells.map V.int)) → cells ≠ [] → (∀ x ∈ cells, 0 ≤ x) → cells.length ≤ 63 → ∀ p, H4 p = none → Q (.ref p) (upd H4 p (.lst [.int 0, .ref cl])) := fun cl cells H4 h1 h2 h3 h4 p hp =>
        q _ p cl cells ⟨upd_same, by rw [upd_ne (ne_of_none h1 hp)]; exact h1, h2, h3, h4, Int.le_refl 0, by decide⟩
      refine ⟨_, rfl, _, _, rfl, .inl (SqL.of hDl), rfl, _, rfl, ?_⟩
      rw [List.length_map]
      cases acc with
      | nil =>
        refine iteT ⟨(by show 1 ≤ sizeLine; decide), fun cl hcl => ?_⟩
        refine ⟨_, rfl, (by show 2 ≤ sizeLine; decide), fun p hp => ?_⟩
        exact fin cl [0] _ upd_same (by simp) (fun x hx => by rw [List.mem_singleton.mp hx]; exact Int.le_refl 0) (by simp) p hp
      | cons x0 acc =>
        refine ite2 (fun c => ?_) (fun c => ?_)
        · exfalso
          have z := V.int.inj (of_decide_eq_true c)
          simp only [List.length_cons] at z
          omega
        refine ⟨_, rfl, (by show 2 ≤ sizeLine; decide), fun p hp => ?_⟩
        exact fin D (x0 :: acc) _ hDl (by simp) hnn (by omega) p hp
theorem take_lt {x m : Int} {n : Nat} (h : m = (n : Nat)) (hn : 0 < n) : ∃ r : Nat, x % m = (r : Nat) ∧ r < n := by
  subst h
  have h1 := Int.emod_nonneg x (show ((n : Nat) : Int) ≠ 0 by omega)
  have h2 := Int.emod_lt_of_pos x (show (0 : Int) < ((n : Nat) : Int) by omega)
  exact ⟨(x % (n : Nat)).toNat, (Int.toNat_of_nonneg h1).symm, by omega⟩
theorem ok_take (T : Txt P w K mg A) : FnOk P w K mg base CX0 1 A.qT.a A.qT.d ["_law_state_here", "_law_most"] spTake := by
  refine T.tL.T.F.ok scTk (fun vs H Q E h => ?_) (fun cdv A0 outer s0 H vs Q E hr h => ?_)
  · obtain ⟨p, cl, c, cells, m, rfl, _⟩ := h
    rfl
  · obtain ⟨p, cl, c, cells, m, rfl, hS, hc, hm, hm1, q⟩ := h
    refine ⟨_, pss_cons (ps_set (i := 2) scTk.nd rfl (Or.inl rfl) (pe_ix ix_list (pv 0) pe_int (fun _ _ => rfl)))
      (pss_cons (ps_set (i := 3) scTk.nd rfl (Or.inl rfl) (pe_op op_mod (pe_ix ix_list (pv 0) pe_int (fun _ _ => rfl)) (pe_callB call_len_seq (by rfl) T.tB.len PySem.boot_len (pa_cons (pv 2) pa_nil))))
      (pss_cons (ps_set (i := 4) scTk.nd rfl (Or.inl rfl) (pe_ix ix_list (pv 2) (pv 3) (fun _ _ => rfl)))
      (pss_cons (ps_if (pt_cmpR op_ge (pv 4) pe_int (nomark _))
        (pss_cons (ps_asg (pe_op op_fdiv (pv 4) (pv 1)) (pg_sub (pv 2) (pv 3) set_list))
        (pss_one (ps_ret (pe_op op_mod (pv 4) (pv 1))))) pss_nil)
      (pss_cons (ps_asg (pe_op op_add (pe_ix ix_list (pv 0) pe_int (fun _ _ => rfl)) pe_int) (pg_sub (pv 0) pe_int set_list))
      (pss_cons (ps_set (i := 5) scTk.nd rfl (Or.inl rfl) (pe_op op_mod (pe_callTy call_int1 (by rfl) T.tB.int (by decide +kernel) (pa_cons (pe_op op_add (pe_op op_mul (pv 4) pe_int) (pe_op op_mul (pe_ix ix_list (pv 0) pe_int (fun _ _ => rfl)) pe_int)) pa_nil)) pe_int))
      (pss_cons (ps_set (i := 5) scTk.nd rfl (Or.inl rfl) (pe_op op_mod (pe_callTy call_int1 (by rfl) T.tB.int (by decide +kernel) (pa_cons (pe_op op_add (pe_op op_mul (pv 5) pe_int) (pe_op op_mul (pe_ix ix_list (pv 0) pe_int (fun _ _ => rfl)) pe_int)) pa_nil)) pe_int))
      (pss_one (ps_ret (pe_op op_mod (pe_op op_fdiv (pv 5) pe_int) (pv 1)))))))))), ?_⟩
    have ncl : 0 < cells.length := List.length_pos_iff.mpr hS.ne
    have hpc : p ≠ cl := fun z => by
      have e1 := hS.p
      rw [z, hS.cl] at e1
      have e2 := congrArg List.length (HO.lst.inj (Option.some.inj e1))
      have e3 := HO.lst.inj (Option.some.inj e1)
      cases hcs : cells with
      | nil => rw [hcs] at e3; cases e3
      | cons x r =>
        rw [hcs] at e3
        cases r with
        | nil => cases e3
        | cons y r => simp at e3
    refine ⟨_, rfl, p, _, _, _, rfl, rfl, SqL.of hS.p, at1, ?_⟩
    refine ⟨_, rfl, p, _, _, _, rfl, rfl, SqL.of hS.p, at0, _, rfl, _, _, rfl, .inl (SqL.of hS.cl), _, _, rfl, rfl, by rw [List.length_map]; omega, ?_⟩
    rw [List.length_map]
    obtain ⟨j, ej, hj⟩ := take_lt (x := c) (m := ((cells.length : Nat) : Int)) rfl ncl
    have ej' : (fun i j : Int => V.int (i % j)) c ((cells.length : Nat) : Int) = V.int (j : Nat) := congrArg V.int ej
    rw [ej']
    have hcj : cells[j]? = some cells[j] := List.getElem?_eq_getElem hj
    have hn0 := hS.nn _ (List.getElem_mem hj)
    generalize cells[j] = x at hcj hn0
    refine ⟨_, rfl, _, rfl, cl, _, _, _, rfl, rfl, SqL.of hS.cl, atI_nat (v := V.int x) (by rw [List.getElem?_map, hcj]; rfl), ?_⟩
    refine ⟨_, rfl, _, _, rfl, rfl, _, rfl, ?_⟩
    refine ite2 (fun z => ?_) (fun z => ?_)
    · have z' := of_decide_eq_true z
      refine ⟨_, rfl, _, rfl, x, _, rfl, rfl, ⟨by omega, by omega⟩, _, rfl, _, rfl, cl, _, _, j, rfl, rfl, hS.cl, ixN_nat (by rw [List.length_map]; exact hj), ?_⟩
      have hcl' : (upd H cl (.lst ((cells.map V.int).set j (.int (x / (m : Nat)))))) cl = some (.lst ((cells.set j (x / (m : Nat))).map V.int)) := by rw [upd_same, List.map_set]
      have hS' : LSt (upd H cl (.lst ((cells.map V.int).set j (.int (x / (m : Nat)))))) p cl c (cells.set j (x / (m : Nat))) := ⟨by rw [upd_ne hpc]; exact hS.p, hcl', by
        intro e
        have e1 := congrArg List.length e
        rw [List.length_set, List.length_nil] at e1
        omega, fun y hy => by
        rcases List.mem_or_eq_of_mem_set hy with hy | hy
        · exact hS.nn y hy
        · rw [hy]
          exact Int.ediv_nonneg hn0 (by omega), by rw [List.length_set]; exact hS.len, hS.lo, hS.hi⟩
      have xe : Ext H (upd H cl (.lst ((cells.map V.int).set j (.int (x / (m : Nat)))))) := fun b ys e => by rw [upd_ne (fun zz => by rw [zz, hS.cl] at e; cases e)]; exact e
      obtain ⟨r, er, hr'⟩ := take_lt (x := x) (m := ((m : Nat) : Int)) rfl hm
      refine ⟨_, rfl, _, rfl, x, _, rfl, rfl, by omega, ?_⟩
      have er' : (fun i j : Int => V.int (i % j)) x ((m : Nat) : Int) = V.int (r : Nat) := congrArg V.int er
      show Q ((fun i j : Int => V.int (i % j)) x ((m : Nat) : Int)) _
      rw [er']
      exact q _ r c _ xe hS' (by omega) hr'
    · have z' : x < 1000000000000000000 := by
        have := of_decide_eq_false (Bool.eq_false_iff.mpr z)
        omega
      refine ⟨_, rfl, p, _, _, _, rfl, rfl, SqL.of hS.p, at0, _, _, rfl, rfl, _, rfl, p, _, _, 0, rfl, rfl, hS.p, ixN_nat (n := 2) (i := 0) (by decide), ?_⟩
      have hS' : LSt (upd H p (.lst [.int (c + 1), .ref cl])) p cl (c + 1) cells := ⟨upd_same, by rw [upd_ne hpc.symm]; exact hS.cl, hS.ne, hS.nn, hS.len, by have := hS.lo; omega, by omega⟩
      have xe : Ext H (upd H p (.lst [.int (c + 1), .ref cl])) := fun b ys e => by rw [upd_ne (fun zz => by rw [zz, hS.p] at e; cases e)]; exact e
      refine ⟨_, rfl, _, _, rfl, rfl, .inr ⟨by decide, by decide⟩, _, rfl, p, _, _, _, rfl, rfl, SqL.of hS'.p, at0, _, _, rfl, rfl, .inr ⟨by decide, by decide⟩, _, _, rfl, rfl, .inl ⟨_, rfl, _, _, rfl, rfl, (by show (0 : Int) < _; decide), ?_⟩⟩
      refine ⟨_, rfl, _, _, rfl, rfl, .inr ⟨by decide, by decide⟩, _, rfl, p, _, _, _, rfl, rfl, SqL.of hS'.p, at0, _, _, rfl, rfl, .inr ⟨by decide, by decide⟩, _, _, rfl, rfl, .inl ⟨_, rfl, _, _, rfl, rfl, (by show (0 : Int) < _; decide), ?_⟩⟩
      refine ⟨_, rfl, _, _, rfl, rfl, ⟨by decide, by decide⟩, _, rfl, _, _, rfl, rfl, by omega, ?_⟩
      show Q (.int (_ % ((m : Nat) : Int))) _
      generalize hy : (_ : Int) / 7 = y
      obtain ⟨r, er, hr'⟩ := take_lt (x := y) (m := ((m : Nat) : Int)) rfl hm
      rw [er]
      exact q _ r _ _ xe hS' (by omega) hr'
end
end K9
/-! The law's helpers: _law_chain, _law_size, _law_due. -/
namespace K9
open PySem L2
def lsz : RT → Nat
  | .pair a _ => 1 + 2 * lsz a
  | .fn a b => 1 + lsz a + lsz b
  | _ => 1
def RT.dep : RT → Nat
  | .pair a b => 1 + max a.dep b.dep
  | .fn a b => 1 + max a.dep b.dep
  | _ => 1
def spChain (K : PySem.W.Frag) : Sp := fun vs H Q _ => ∃ (e f : Exp) (ve vf : V) (d : Nat), vs = [ve, .int (d : Nat), vf] ∧ ExpAt K H e ve ∧ ExpAt K H f vf ∧ d ≤ 14 ∧ ∀ H' v, Same H H' → ExpAt K H' (chain e d f) v → Q v H'
def spSize (K : PySem.W.Frag) (n : Nat) : Sp := fun vs H Q _ => ∃ (t : RT) (v : V), vs = [v] ∧ RtAt K H t v ∧ t.dep ≤ n ∧ lsz t ≤ 1000 ∧ Q (.int (lsz t : Nat)) H
def spDue (K : PySem.W.Frag) : Sp := fun vs H Q _ => ∃ (t : RT) (v : V) (d : Nat), vs = [v, .int (d : Nat)] ∧ RtAt K H t v ∧ d ≤ 14 ∧ ∀ H' v', Same H H' → RtAt K H' (due t d) v' → Q v' H'
abbrev NCh : List Str := ["_law_value", "_law_depth", "_law_last", "_law_body", "_law_k_here", "_law_name", "_law_before"]
theorem vname : ∀ i < 15, ("v" : Str) ++ toString ((i : Nat) : Int) = nm (vn i) := by decide +kernel
theorem vlen : ∀ i < 15, ("v" : Str).length + (toString ((i : Nat) : Int) : Str).length ≤ sizeLine := by decide +kernel
theorem vlog : ∀ i < 15, (((i : Nat) : Int)).natAbs.log2 < 1920 := by decide +kernel
section
variable {P : Program} {w : World} {K : PySem.W.Frag} {mg : Str → Option Value} {base : Heap} {A : Adr}
theorem scCh : FnScope NCh ["_law_value", "_law_depth", "_law_last"] (defScope sLchain) := ⟨rfl, rfl, rfl, by decide +kernel, rfl, by decide +kernel, by decide +kernel⟩
theorem scSz : FnScope ["_law_known"] ["_law_known"] (defScope sLsize) := ⟨rfl, rfl, rfl, by decide +kernel, rfl, by decide +kernel, by decide +kernel⟩
theorem scDu : FnScope ["_law_known", "_law_depth", "_law_k"] ["_law_known", "_law_depth"] (defScope sLdue) := ⟨rfl, rfl, rfl, by decide +kernel, rfl, by decide +kernel, by decide +kernel⟩
theorem ok_chain (T : Txt P w K mg A) : FnOk P w K mg base CX0 1 A.qC.a A.qC.d ["_law_value", "_law_depth", "_law_last"] (spChain K) := by
  refine T.tL.C.F.ok scCh (fun vs H Q E h => ?_) (fun cdv A0 outer s0 H vs Q E hr h => ?_)
  · obtain ⟨e, f, ve, vf, d, rfl, _⟩ := h
    rfl
  · obtain ⟨e, f, ve, vf, d, rfl, he, hf, hd, q⟩ := h
    refine ⟨_, pss_cons (ps_set (i := 3) scCh.nd rfl (Or.inl rfl) (pv 2))
      (pss_cons (ps_for PassesOwn.never rfl (pi_range1 (by rfl) T.tB.rng (pa_cons (pv 1) pa_nil)) (pg_name (i := 4) scCh.nd rfl (Or.inl rfl))
        (pss_cons (ps_par (i := 5) (j := 6) rfl scCh.nd rfl rfl (by decide) rfl rfl (pa_cons (pe_op op_add_str pe_str (pe_callTy call_str_int (by rfl) T.tB.str (by decide +kernel) (pa_cons (pe_op op_sub (pv 1) (pv 4)) pa_nil))) (pa_cons (pe_op op_add_str pe_str (pe_callTy call_str_int (by rfl) T.tB.str (by decide +kernel) (pa_cons (pe_op op_sub (pe_op op_sub (pv 1) (pv 4)) pe_int) pa_nil))) pa_nil)) rfl)
        (pss_one (ps_set (i := 3) scCh.nd rfl (Or.inl rfl) (pe_tup (pa_cons pe_str (pa_cons (pv 5) (pa_cons (pe_tup (pa_cons pe_str (pa_cons (pe_tup (pa_cons pe_str (pa_cons (pv 6) pa_nil))) (pa_cons (pe_tup (pa_cons pe_str (pa_cons (pv 6) pa_nil))) pa_nil)))) (pa_cons (pv 3) pa_nil)))))))))
      (pss_one (ps_ret (pe_tup (pa_cons pe_str (pa_cons pe_str (pa_cons (pv 0) (pa_cons (pv 3) pa_nil)))))))), ?_⟩
    refine ⟨_, rfl, _, rfl, _, rfl, by omega, by omega, for_range (lo := 0) (n := d) (fun i σ H2 => (∃ v o4 o5 o6, σ = [some ve, some (.int (d : Nat)), some vf, some v, o4, o5, o6] ∧ ExpAt K H2 (chainB d i f) v) ∧ Same H H2) ⟨⟨vf, none, none, none, rfl, hf⟩, Same.refl _⟩ ?_ ?_⟩
    · rintro i σ H2 hi ⟨⟨v, o4, o5, o6, rfl, hv⟩, s2⟩
      rw [Int.zero_add]
      obtain ⟨m, hm⟩ : ∃ m, d = m + 1 + i := ⟨d - i - 1, by omega⟩
      have e1 : ((d : Nat) : Int) - ((i : Nat) : Int) = ((m + 1 : Nat) : Int) := by omega
      have e2 : ((d : Nat) : Int) - ((i : Nat) : Int) - 1 = ((m : Nat) : Int) := by omega
      refine ⟨_, rfl, _, rfl, _, _, rfl, rfl, ((m + 1 : Nat) : Int), congrArg (fun z => [V.int z]) e1, vlog _ (by omega), _, _, rfl, rfl, vlen _ (by omega), ?_⟩
      refine ⟨_, rfl, _, rfl, _, _, rfl, rfl, _, _, rfl, rfl, ((m : Nat) : Int), congrArg (fun z => [V.int z]) e2, vlog _ (by omega), _, _, rfl, rfl, vlen _ (by omega), _, _, rfl, ?_⟩
      rw [vname (m + 1) (by omega), vname m (by omega)]
      refine ⟨_, rfl, _, rfl, (by show 2 ≤ sizeLine; decide), fun p1 hp1 => ?_⟩
      have s3 := same_new hp1 (.tup [.str "name", .str (nm (vn m))])
      refine ⟨_, rfl, (by show 2 ≤ sizeLine; decide), fun p2 hp2 => ?_⟩
      have s4 := same_new hp2 (.tup [.str "name", .str (nm (vn m))])
      refine ⟨(by show 3 ≤ sizeLine; decide), fun p3 hp3 => ?_⟩
      have s5 := same_new hp3 (.tup [.str "pair", .ref p1, .ref p2])
      refine ⟨_, rfl, (by show 4 ≤ sizeLine; decide), fun p4 hp4 => ?_⟩
      have s6 := same_new hp4 (.tup [.str "let", .str (nm (vn (m + 1))), .ref p3, v])
      have ec : chainB d (i + 1) f = .letE (vn (m + 1)) (.pair (.name (vn m)) (.name (vn m))) (chainB d i f) := by
        show Exp.letE (vn (d - i)) (.pair (.name (vn (d - i - 1))) (.name (vn (d - i - 1)))) (chainB d i f) = _
        rw [show d - i = m + 1 by omega, show m + 1 - 1 = m by omega]
      refine ⟨⟨.ref p4, _, _, _, rfl, ?_⟩, s2.trans (s3.trans (s4.trans (s5.trans s6)))⟩
      rw [ec]
      exact ⟨p4, .ref p3, v, rfl, Tp.of upd_same, ⟨p3, .ref p1, .ref p2, rfl, Tp.of (s6 _ _ upd_same), ⟨p1, rfl, Tp.of (s6 _ _ (s5 _ _ (s4 _ _ upd_same)))⟩, ⟨p2, rfl, Tp.of (s6 _ _ (s5 _ _ upd_same))⟩⟩, hv.ext (sExt (s3.trans (s4.trans (s5.trans s6))))⟩
    · rintro σ H2 ⟨⟨v, o4, o5, o6, rfl, hv⟩, s2⟩
      refine ⟨_, rfl, _, rfl, (by show 4 ≤ sizeLine; decide), fun p hp => ?_⟩
      have s3 := same_new hp (.tup [.str "let", .str "v0", ve, v])
      exact q _ _ (s2.trans s3) ⟨p, ve, v, rfl, Tp.of upd_same, he.ext (sExt (s2.trans s3)), hv.ext (sExt s3)⟩
theorem ok_lsize (T : Txt P w K mg A) : ∀ n : Nat, FnOk P w K mg base CX0 (n + 1) A.qZ.a A.qZ.d ["_law_known"] (spSize K n)
  | 0 => by
    have no : ∀ vs H Q E, ¬ spSize K 0 vs H Q E := fun vs H Q E ⟨t, v, _, _, h, _⟩ => by cases t <;> simp [RT.dep] at h
    exact ⟨fun vs H Q E h => absurd h (no vs H Q E), fun A outer s H args us vs Q E _ _ _ _ h => absurd h (no vs H Q E)⟩
  | n + 1 => by
    have IH := ok_lsize T n
    refine T.tL.Z.F.ok (k := n + 1) scSz (fun vs H Q E h => ?_) (fun cdv A0 outer s0 H vs Q E hr h => ?_)
    · obtain ⟨t, v, rfl, _⟩ := h
      rfl
    · obtain ⟨t, v, rfl, hv, hd, hl, q⟩ := h
      refine ⟨_, pss_cons (ps_if (pt_cmpR op_eq (pe_ix ix_tup (pv 0) pe_int (fun _ _ => rfl)) pe_str (nomark _))
          (pss_one (ps_ret (pe_op op_add pe_int (pe_op op_mul pe_int (pe_call IH hr rfl T.tL.Z.g T.tL.Z.F.kp T.tL.Z.b .nil pass0 (pa_cons (pe_ix ix_tup (pv 0) pe_int (fun _ _ => rfl)) pa_nil)))))) pss_nil)
        (pss_cons (ps_if (pt_cmpR op_eq (pe_ix ix_tup (pv 0) pe_int (fun _ _ => rfl)) pe_str (nomark _))
          (pss_one (ps_ret (pe_op op_add (pe_op op_add pe_int (pe_call IH hr rfl T.tL.Z.g T.tL.Z.F.kp T.tL.Z.b .nil pass0 (pa_cons (pe_ix ix_tup (pv 0) pe_int (fun _ _ => rfl)) pa_nil))) (pe_call IH hr rfl T.tL.Z.g T.tL.Z.F.kp T.tL.Z.b .nil pass0 (pa_cons (pe_ix ix_tup (pv 0) pe_int (fun _ _ => rfl)) pa_nil))))) pss_nil)
        (pss_one (ps_ret pe_int))), ?_⟩
      cases t with
      | int =>
        obtain ⟨a, rfl, ha⟩ := hv
        refine ⟨_, rfl, a, _, _, _, rfl, rfl, ha.sq, at0, rfl, _, rfl, ?_⟩
        rw [show decide (V.str "int" = V.str "pair") = false by decide +kernel]
        refine iteF ⟨_, rfl, a, _, _, _, rfl, rfl, ha.sq, at0, rfl, _, rfl, ?_⟩
        rw [show decide (V.str "int" = V.str "fun") = false by decide +kernel]
        exact iteF q
      | bool =>
        obtain ⟨a, rfl, ha⟩ := hv
        refine ⟨_, rfl, a, _, _, _, rfl, rfl, ha.sq, at0, rfl, _, rfl, ?_⟩
        rw [show decide (V.str "bool" = V.str "pair") = false by decide +kernel]
        refine iteF ⟨_, rfl, a, _, _, _, rfl, rfl, ha.sq, at0, rfl, _, rfl, ?_⟩
        rw [show decide (V.str "bool" = V.str "fun") = false by decide +kernel]
        exact iteF q
      | unit =>
        obtain ⟨a, rfl, ha⟩ := hv
        refine ⟨_, rfl, a, _, _, _, rfl, rfl, ha.sq, at0, rfl, _, rfl, ?_⟩
        rw [show decide (V.str "unit" = V.str "pair") = false by decide +kernel]
        refine iteF ⟨_, rfl, a, _, _, _, rfl, rfl, ha.sq, at0, rfl, _, rfl, ?_⟩
        rw [show decide (V.str "unit" = V.str "fun") = false by decide +kernel]
        exact iteF q
      | pair x y =>
        obtain ⟨a, vx, vy, rfl, ha, hx, hy⟩ := hv
        simp only [RT.dep] at hd
        simp only [lsz] at hl
        refine ⟨_, rfl, a, _, _, _, rfl, rfl, ha.sq, at0, rfl, _, rfl, ?_⟩
        rw [show decide (V.str "pair" = V.str "pair") = true by decide +kernel]
        refine iteT ⟨_, rfl, a, _, _, _, rfl, rfl, ha.sq, at1, x, vx, rfl, hx, by omega, by omega, _, _, rfl, rfl, .inl ⟨by decide, by decide⟩, _, _, rfl, rfl, ?_⟩
        have e : (1 : Int) + 2 * ((lsz x : Nat) : Int) = ((lsz (.pair x y) : Nat) : Int) := by simp only [lsz]; omega
        show Q (.int ((1 : Int) + 2 * ((lsz x : Nat) : Int))) H
        rw [e]
        exact q
      | fn x y =>
        obtain ⟨a, e, vx, vy, rfl, ha, he, hx, hy⟩ := hv
        simp only [RT.dep] at hd
        simp only [lsz] at hl
        refine ⟨_, rfl, a, _, _, _, rfl, rfl, ha.sq, at0, rfl, _, rfl, ?_⟩
        rw [show decide (V.str "fun" = V.str "pair") = false by decide +kernel]
        refine iteF ⟨_, rfl, a, _, _, _, rfl, rfl, ha.sq, at0, rfl, _, rfl, ?_⟩
        rw [show decide (V.str "fun" = V.str "fun") = true by decide +kernel]
        refine iteT ⟨_, rfl, a, _, _, _, rfl, rfl, ha.sq, at1, x, vx, rfl, hx, by omega, by omega, _, _, rfl, rfl, ?_⟩
        refine ⟨_, rfl, a, _, _, _, rfl, rfl, ha.sq, at3, y, vy, rfl, hy, by omega, by omega, _, _, rfl, rfl, ?_⟩
        have e : (1 : Int) + ((lsz x : Nat) : Int) + ((lsz y : Nat) : Int) = ((lsz (.fn x y) : Nat) : Int) := by simp only [lsz]; omega
        show Q (.int ((1 : Int) + ((lsz x : Nat) : Int) + ((lsz y : Nat) : Int))) H
        rw [e]
        exact q
theorem ok_due (T : Txt P w K mg A) : FnOk P w K mg base CX0 1 A.qD.a A.qD.d ["_law_known", "_law_depth"] (spDue K) := by
  refine T.tL.D.F.ok scDu (fun vs H Q E h => ?_) (fun cdv A0 outer s0 H vs Q E hr h => ?_)
  · obtain ⟨t, v, d, rfl, _⟩ := h
    rfl
  · obtain ⟨t, v, d, rfl, hv, hd, q⟩ := h
    refine ⟨_, pss_cons (ps_for PassesOwn.never rfl (pi_range1 (by rfl) T.tB.rng (pa_cons (pv 1) pa_nil)) (pg_name (i := 2) scDu.nd rfl (Or.inl rfl))
        (pss_one (ps_set (i := 0) scDu.nd rfl (Or.inl rfl) (pe_tup (pa_cons pe_str (pa_cons (pv 0) (pa_cons (pv 0) pa_nil)))))))
      (pss_one (ps_ret (pv 0))), ?_⟩
    refine ⟨_, rfl, _, rfl, by omega, by omega, for_range (lo := 0) (n := d) (fun i σ H2 => (∃ v o2, σ = [some v, some (.int (d : Nat)), o2] ∧ RtAt K H2 (due t i) v) ∧ Same H H2) ⟨⟨v, none, rfl, hv⟩, Same.refl _⟩ ?_ ?_⟩
    · rintro i σ H2 hi ⟨⟨v, o2, rfl, hv⟩, s2⟩
      refine ⟨_, rfl, _, rfl, (by show 3 ≤ sizeLine; decide), fun p hp => ?_⟩
      have s3 := same_new hp (.tup [.str "pair", v, v])
      exact ⟨⟨.ref p, _, rfl, p, v, v, rfl, Tp.of upd_same, hv.ext (sExt s3), hv.ext (sExt s3)⟩, s2.trans s3⟩
    · rintro σ H2 ⟨⟨v, o2, rfl, hv⟩, s2⟩
      exact ⟨_, rfl, q _ _ s2 hv⟩
end
end K9
/-! law. -/
namespace K9
open PySem L2
abbrev NW : List Str := ["_law_script", "_law_state_here", "_law_depth", "_law_kind", "_law_value", "_law_known", "_law_size_here", "_law_k", "_law_told_here", "_law_grown", "_law_inner", "_law_called"]
def spLaw (K : PySem.W.Frag) : Sp := fun vs H Q _ => ∃ (a : Addr) (ns : List Int), vs = [.ref a] ∧ SqL K H a (ns.map V.int) ∧ ns.length ≤ 63 ∧ ∀ H', Q (.bl true) H'
def ToldV (K : PySem.W.Frag) (H : Hp) (x : R RT) (v : V) : Prop := match x with
  | none => False
  | some none => v = .str "types"
  | some (some t) => RtAt K H t v
theorem ToldE.of {K : PySem.W.Frag} {H : Hp} {Q : VK} {x : R RT} (hx : x ≠ none) (h : ∀ H' v, Same H H' → ToldV K H' x v → Q v H') : ToldE K H Q x := by
  match x with
  | none => exact absurd rfl hx
  | some none => exact fun H' s => h H' _ s rfl
  | some (some t) => exact fun H' v s hv => h H' v s hv
theorem one_get {k d : Nat} (hk : k < 3) (hd : d < 14) : (szk (rsz (known k)) (d + 1) > 1000 ∧ infer (chain (value k) (d + 1) (.name (vn (d + 1)))) = some none) ∨ (¬ szk (rsz (known k)) (d + 1) > 1000 ∧ infer (chain (value k) (d + 1) (.name (vn (d + 1)))) = some (some (due (known k) (d + 1)))) := by
  have h := one_all k hk d hd
  unfold one at h
  split at h
  · rename_i c
    exact .inl ⟨c, of_decide_eq_true h⟩
  · rename_i c
    exact .inr ⟨c, of_decide_eq_true h⟩
theorem two_get {k d i : Nat} (hk : k < 3) (hd : d < 14) (hi : i < 4) : (szk (2 * rsz (known k) + 1) (d + 1) > 1000 ∧ infer (called (d + 1) k (i + 1)) = some none) ∨ (¬ szk (2 * rsz (known k) + 1) (d + 1) > 1000 ∧ infer (called (d + 1) k (i + 1)) = some (some .int)) := by
  have h := two_all k hk d hd i hi
  unfold two at h
  split at h
  · rename_i c
    exact .inl ⟨c, of_decide_eq_true h⟩
  · rename_i c
    exact .inr ⟨c, of_decide_eq_true h⟩
theorem lsz_known : ∀ k < 3, lsz (known k) = rsz (known k) ∧ (known k).dep ≤ 2 ∧ lsz (known k) ≤ 3 := by decide +kernel
theorem k3 {k : Nat} (h : k < 3) : k = 0 ∨ k = 1 ∨ k = 2 := by omega
section
variable {P : Program} {w : World} {K : PySem.W.Frag} {mg : Str → Option Value} {base : Heap} {A : Adr}
theorem scLw : FnScope NW ["_law_script"] (defScope sLaw) := ⟨rfl, rfl, rfl, by decide +kernel, rfl, by decide +kernel, by decide +kernel⟩
theorem law_tail (T : Txt P w K mg A) (TE : TxE K mg A) {f : Addr} {cdv : Value} {A0 : Around} {outer : List Env} {s0 : Shared} {H : Hp} {E : XK} (hr : Room 168 (A0.deeper (PyProof.Rows.envOfC "law" (defScope sLaw) s0.heap.objs.size f cdv))) :
    ∃ t : TS, PSs (cxOf CX0 P w K mg base NW "law" (defScope sLaw) f cdv A0 outer s0 H E).nox ((defBody sLaw).drop 10) t ∧
      ∀ (Q : VK) (H1 : Hp) (sv vv kv : V) (p cl : Addr) (c : Int) (cells : List Int) (d k : Nat) (o6 o7 o8 : Option V), (∀ H', Q (.bl true) H') → LSt H1 p cl c cells → c < 100 → d < 14 → k < 3 → ExpAt K H1 (value k) vv → RtAt K H1 (known k) kv →
        t { nx := fun _ H' => Q .non H', rt := Q } [some sv, some (.ref p), some (.int ((d + 1 : Nat) : Int)), some (.int (k : Nat)), some vv, some kv, o6, o7, o8, none, none, none] H1 := by
  have GC := (ok_chain (base := base) T).mono (show 1 ≤ 168 by omega)
  have GT := (ok_take (base := base) T).mono (show 1 ≤ 168 by omega)
  have GZ := (ok_lsize (base := base) T 2).mono (show 3 ≤ 168 by omega)
  have GO := (ok_told (base := base) T TE)
  refine ⟨_, pss_cons (ps_set (i := 9) scLw.nd rfl (Or.inl rfl) (pe_call GC hr rfl T.tL.C.g T.tL.C.F.kp T.tL.C.b .nil pass0 (pa_cons (pe_tup (pa_cons pe_str (pa_cons pe_str pa_nil))) (pa_cons (pv 2) (pa_cons (pe_tup (pa_cons pe_str (pa_cons (pe_tup (pa_cons pe_str (pa_cons (pe_op op_add_str pe_str (pe_callTy call_str_int (by rfl) T.tB.str (by decide +kernel) (pa_cons (pv 2) pa_nil))) pa_nil))) pa_nil))) pa_nil)))))
    (pss_cons (ps_set (i := 10) scLw.nd rfl (Or.inl rfl) (pe_call GC hr rfl T.tL.C.g T.tL.C.F.kp T.tL.C.b .nil pass0 (pa_cons (pv 4) (pa_cons (pe_op op_add pe_int (pe_call GT hr rfl T.tL.T.g T.tL.T.F.kp T.tL.T.b .nil pass0 (pa_cons (pv 1) (pa_cons pe_int pa_nil)))) (pa_cons (pe_tup (pa_cons pe_str (pa_cons pe_str pa_nil))) pa_nil)))))
    (pss_cons (ps_set (i := 11) scLw.nd rfl (Or.inl rfl) (pe_tup (pa_cons pe_str (pa_cons (pe_tup (pa_cons pe_str (pa_cons pe_str (pa_cons (pe_tup (pa_cons pe_str (pa_cons pe_str (pa_cons (pv 9) (pa_cons (pe_tup (pa_cons pe_str (pa_cons pe_int pa_nil))) pa_nil))))) pa_nil)))) (pa_cons (pv 10) pa_nil)))))
    (pss_cons (ps_set (i := 6) scLw.nd rfl (Or.inl rfl) (pe_op op_add (pe_op op_mul pe_int (pe_call GZ hr rfl T.tL.Z.g T.tL.Z.F.kp T.tL.Z.b .nil pass0 (pa_cons (pv 5) pa_nil))) pe_int))
    (pss_cons (ps_for PassesOwn.never rfl (pi_range1 (by rfl) T.tB.rng (pa_cons (pv 2) pa_nil)) (pg_name (i := 7) scLw.nd rfl (Or.inl rfl))
      (pss_one (ps_set (i := 6) scLw.nd rfl (Or.inl rfl) (pe_op op_add (pe_op op_mul pe_int (pv 6)) pe_int))))
    (pss_cons (ps_if (pt_cmpR op_gt (pv 6) pe_int (nomark _))
      (pss_one (ps_ret (pe_cmpR op_eq (pe_call GO hr rfl T.tL.O.g T.tL.O.F.kp T.tL.O.b .nil pass0 (pa_cons (pv 11) pa_nil)) pe_str (nomark _)))) pss_nil)
    (pss_one (ps_ret (pe_cmpR (op_eqD hr.units) (pe_call GO hr rfl T.tL.O.g T.tL.O.F.kp T.tL.O.b .nil pass0 (pa_cons (pv 11) pa_nil)) (pe_tup (pa_cons pe_str pa_nil)) (nomark _))))))))), ?_⟩
  intro Q H1 sv vv kv p cl c cells d k o6 o7 o8 q hS hc hd hk hv hkv
  -- grown
  refine ⟨(by show 2 ≤ sizeLine; decide), fun p1 hp1 => ?_⟩
  have s1 := same_new hp1 (.tup [.str "name", .str "y"])
  refine ⟨_, rfl, _, rfl, _, rfl, vlog _ (by omega), _, _, rfl, rfl, vlen _ (by omega), ?_⟩
  rw [vname (d + 1) (by omega)]
  refine ⟨(by show 2 ≤ sizeLine; decide), fun p2 hp2 => ?_⟩
  have s2 := same_new hp2 (.tup [.str "name", .str (nm (vn (d + 1)))])
  refine ⟨(by show 2 ≤ sizeLine; decide), fun p3 hp3 => ?_⟩
  have s3 := same_new hp3 (.tup [.str "fst", .ref p2])
  refine ⟨.name ny, .fst (.name (vn (d + 1))), .ref p1, .ref p3, d + 1, rfl, ⟨p1, rfl, Tp.of (s3 _ _ (s2 _ _ upd_same))⟩, ⟨p3, .ref p2, rfl, Tp.of upd_same, p2, rfl, Tp.of (s3 _ _ upd_same)⟩, by omega, fun H5 gv s5 hg => ?_⟩
  have s15 := s1.trans (s2.trans (s3.trans s5))
  have S5 := hS.same s15
  have hv5 := hv.ext (sExt s15)
  have hk5 := hkv.ext (sExt s15)
  clear s1 s2 s3 hS hv hkv
  -- inner
  refine ⟨_, rfl, _, rfl, p, cl, c, cells, 4, rfl, S5, hc, by decide, by decide, fun H6 i c' cells' x6 S6 hc' hi' => ?_⟩
  refine ⟨_, _, rfl, rfl, (by show 2 ≤ sizeLine; decide), fun p4 hp4 => ?_⟩
  have s4 := same_new hp4 (.tup [.str "name", .str "v1"])
  have x4 : Ext H5 (upd H6 p4 (.tup [.str "name", .str "v1"])) := x6.trans (sExt s4)
  refine ⟨value k, .name (vn 1), vv, .ref p4, i + 1, congrArg (fun z => [vv, V.int z, V.ref p4]) (show (1 : Int) + ((i : Nat) : Int) = ((i + 1 : Nat) : Int) by omega), hv5.ext x4, ⟨p4, rfl, Tp.of upd_same⟩, by omega, fun H7 iv s7 hi7 => ?_⟩
  have x7 := x4.trans (sExt s7)
  have hg7 := hg.ext x7
  have hk7 := hk5.ext x7
  clear x4 s4 s7 x6 x7 hg hk5 hv5 S5 S6
  -- called
  refine ⟨_, rfl, (by show 2 ≤ sizeLine; decide), fun p5 hp5 => ?_⟩
  have s5 := same_new hp5 (.tup [.str "num", .int 3])
  refine ⟨(by show 4 ≤ sizeLine; decide), fun p6 hp6 => ?_⟩
  have s6 := same_new hp6 (.tup [.str "let", .str "u", gv, .ref p5])
  refine ⟨(by show 3 ≤ sizeLine; decide), fun p7 hp7 => ?_⟩
  have s7 := same_new hp7 (.tup [.str "fun", .str "y", .ref p6])
  refine ⟨_, rfl, (by show 3 ≤ sizeLine; decide), fun p8 hp8 => ?_⟩
  have s8 := same_new hp8 (.tup [.str "call", .ref p7, iv])
  have hx : ExpAt K (upd (upd (upd (upd H7 p5 (.tup [.str "num", .int 3])) p6 (.tup [.str "let", .str "u", gv, .ref p5])) p7 (.tup [.str "fun", .str "y", .ref p6])) p8 (.tup [.str "call", .ref p7, iv])) (called (d + 1) k (i + 1)) (.ref p8) :=
    ⟨p8, .ref p7, iv, rfl, Tp.of upd_same, ⟨p7, .ref p6, rfl, Tp.of (s8 _ _ upd_same), p6, gv, .ref p5, rfl, Tp.of (s8 _ _ (s7 _ _ upd_same)), hg7.ext (sExt (s5.trans (s6.trans (s7.trans s8)))), p5, rfl, Tp.of (s8 _ _ (s7 _ _ (s6 _ _ upd_same)))⟩, hi7.ext (sExt (s5.trans (s6.trans (s7.trans s8))))⟩
  have hk8 := hk7.ext (sExt (s5.trans (s6.trans (s7.trans s8))))
  generalize upd (upd (upd (upd H7 p5 (.tup [.str "num", .int 3])) p6 (.tup [.str "let", .str "u", gv, .ref p5])) p7 (.tup [.str "fun", .str "y", .ref p6])) p8 (.tup [.str "call", .ref p7, iv]) = H8 at hx hk8 ⊢
  clear s5 s6 s7 s8
  -- the size
  obtain ⟨l1, l2, l3⟩ := lsz_known k hk
  refine ⟨_, rfl, known k, kv, rfl, hk8, l2, by omega, _, _, rfl, rfl, .inl ⟨by decide, by decide⟩, _, _, rfl, rfl, ?_⟩
  have ez : (fun i j : Int => V.int (i + j)) (2 * ((lsz (known k) : Nat) : Int)) 1 = V.int ((szk (2 * rsz (known k) + 1) 0 : Nat) : Int) := congrArg V.int (by rw [l1]; simp only [szk]; omega)
  rw [ez]
  refine ⟨_, rfl, _, rfl, by omega, by omega, for_range (lo := 0) (n := d + 1) (fun i σ H2 => (∃ o7, σ = [some sv, some (.ref p), some (.int ((d + 1 : Nat) : Int)), some (.int (k : Nat)), some vv, some kv, some (.int ((szk (2 * rsz (known k) + 1) i : Nat) : Int)), o7, o8, some gv, some iv, some (.ref p8)]) ∧ H2 = H8) ⟨⟨o7, rfl⟩, rfl⟩ ?_ ?_⟩
  · rintro j σ H2 hj ⟨⟨o7', rfl⟩, rfl⟩
    refine ⟨_, rfl, _, _, rfl, rfl, .inl ⟨by decide, by decide⟩, _, _, rfl, rfl, ⟨some (.int (0 + ((j : Nat) : Int))), ?_⟩, rfl⟩
    have e2 : (fun i j : Int => V.int (i + j)) (2 * ((szk (2 * rsz (known k) + 1) j : Nat) : Int)) 1 = V.int ((szk (2 * rsz (known k) + 1) (j + 1) : Nat) : Int) := congrArg V.int (by simp only [szk]; omega)
    rw [← e2]
    rfl
  · rintro σ H2 ⟨⟨o7', rfl⟩, rfl⟩
    refine ⟨_, rfl, _, _, rfl, rfl, _, rfl, ?_⟩
    rcases two_get hk hd hi' with ⟨c1, c2⟩ | ⟨c1, c2⟩
    · rw [decide_eq_true (show (1000 : Int) < ((szk (2 * rsz (known k) + 1) (d + 1) : Nat) : Int) by omega)]
      refine iteT ⟨_, rfl, called (d + 1) k (i + 1), .ref p8, rfl, hx, dep_two k hk d hd i hi', ?_⟩
      rw [c2]
      intro H9 s9
      refine ⟨rfl, ?_⟩
      rw [decide_eq_true rfl]
      exact q _
    · rw [decide_eq_false (show ¬ (1000 : Int) < ((szk (2 * rsz (known k) + 1) (d + 1) : Nat) : Int) by omega)]
      refine iteF ⟨_, rfl, called (d + 1) k (i + 1), .ref p8, rfl, hx, dep_two k hk d hd i hi', ?_⟩
      rw [c2]
      intro H9 v s9 hv9
      obtain ⟨a9, rfl, t9⟩ := hv9
      refine ⟨(by show 1 ≤ sizeLine; decide), fun p9 hp9 => ?_⟩
      have sA := same_new hp9 (.tup [.str "int"])
      refine ⟨.tuple [.str "int"], .tuple [.str "int"], .tup (t9.ext (sExt sA)).sq (.cons (.str _) .nil), .tup (SqT.of upd_same) (.cons (.str _) .nil), by decide +kernel, by decide +kernel, ?_⟩
      rw [show PyData.eqv (.tuple [.str "int"]) (.tuple [.str "int"]) = true by decide +kernel]
      exact q _
end
end K9
/-! law, whole. -/
namespace K9
open PySem L2
def RT.data : RT → PyData
  | .int => .tuple [.str "int"] | .bool => .tuple [.str "bool"] | .unit => .tuple [.str "unit"]
  | .pair x y => .tuple [.str "pair", x.data, y.data] | .fn x y => .tuple [.str "fun", x.data, .tuple [], y.data]
theorem RtAt.dp {K : PySem.W.Frag} {H : Hp} : ∀ {t : RT} {v : V}, RtAt K H t v → Dp K H v t.data
  | .int, _, ⟨a, h1, h2⟩ => by subst h1; exact .tup h2.sq (.cons (.str _) .nil)
  | .bool, _, ⟨a, h1, h2⟩ => by subst h1; exact .tup h2.sq (.cons (.str _) .nil)
  | .unit, _, ⟨a, h1, h2⟩ => by subst h1; exact .tup h2.sq (.cons (.str _) .nil)
  | .pair _ _, _, ⟨a, vx, vy, h1, h2, h3, h4⟩ => by subst h1; exact .tup h2.sq (.cons (.str _) (.cons (RtAt.dp h3) (.cons (RtAt.dp h4) .nil)))
  | .fn _ _, _, ⟨a, e, vx, vy, h1, h2, h5, h3, h4⟩ => by subst h1; exact .tup h2.sq (.cons (.str _) (.cons (RtAt.dp h3) (.cons (.tup h5.sq .nil) (.cons (RtAt.dp h4) .nil))))
theorem eqv_refl : ∀ t : RT, PyData.eqv t.data t.data = true
  | .int => by decide +kernel
  | .bool => by decide +kernel
  | .unit => by decide +kernel
  | .pair x y => by
    show PyData.eqv (.tuple [.str "pair", x.data, y.data]) (.tuple [.str "pair", x.data, y.data]) = true
    rw [eqv_tuple, eqv_cons, eqv_cons, eqv_cons, eqv_nil, eqv_str, decide_eq_true rfl, eqv_refl x, eqv_refl y]
    rfl
  | .fn x y => by
    show PyData.eqv (.tuple [.str "fun", x.data, .tuple [], y.data]) (.tuple [.str "fun", x.data, .tuple [], y.data]) = true
    rw [eqv_tuple, eqv_cons, eqv_cons, eqv_cons, eqv_cons, eqv_nil, eqv_str, decide_eq_true rfl, eqv_refl x, eqv_refl y, eqv_tuple, eqv_nil]
    rfl
theorem rt_lay : ∀ t : RT, t.data.canLay0 = true
  | .int => by decide +kernel
  | .bool => by decide +kernel
  | .unit => by decide +kernel
  | .pair x y => by
    show (PyData.canLay0 (.str "pair") && (PyData.canLay0 x.data && (PyData.canLay0 y.data && true))) = true
    rw [show PyData.canLay0 (.str "pair") = true by decide +kernel, rt_lay x, rt_lay y]
    rfl
  | .fn x y => by
    show (PyData.canLay0 (.str "fun") && (PyData.canLay0 x.data && (PyData.canLay0 (.tuple []) && (PyData.canLay0 y.data && true)))) = true
    rw [show PyData.canLay0 (.str "fun") = true by decide +kernel, rt_lay x, rt_lay y]
    rfl
theorem rt_dep : ∀ t : RT, t.data.depth ≤ t.dep + 1
  | .int => by decide +kernel
  | .bool => by decide +kernel
  | .unit => by decide +kernel
  | .pair x y => by
    have h1 := rt_dep x
    have h2 := rt_dep y
    simp only [RT.data, PyData.depth, PyData.depthAll, RT.dep]
    omega
  | .fn x y => by
    have h1 := rt_dep x
    have h2 := rt_dep y
    simp only [RT.data, PyData.depth, PyData.depthAll, RT.dep]
    omega
theorem rt_shaped {t : RT} (h : t.dep ≤ 40) : SeqAt.shaped t.data = true := by
  unfold SeqAt.shaped
  rw [rt_lay, decide_eq_true (by have := rt_dep t; omega)]
  rfl
theorem due_dep (t : RT) : ∀ n, (due t n).dep ≤ t.dep + n
  | 0 => Nat.le_refl _
  | n + 1 => by
    have := due_dep t n
    simp only [due, RT.dep]
    omega
section
variable {P : Program} {w : World} {K : PySem.W.Frag} {mg : Str → Option Value} {base : Heap} {A : Adr}
theorem ok_law (T : Txt P w K mg A) (TE : TxE K mg A) {f : Addr} {fd : FuncData} (F : Fun K "law" "law" sLaw f fd) : FnOk P w K mg base CX0 169 f fd ["_law_script"] (spLaw K) := by
  have GS := (ok_state (base := base) T).mono (show 1 ≤ 168 by omega)
  have GC := (ok_chain (base := base) T).mono (show 1 ≤ 168 by omega)
  have GT := (ok_take (base := base) T).mono (show 1 ≤ 168 by omega)
  have GZ := (ok_lsize (base := base) T 2).mono (show 3 ≤ 168 by omega)
  have GD := (ok_due (base := base) T).mono (show 1 ≤ 168 by omega)
  have GO := (ok_told (base := base) T TE)
  obtain ⟨tz, hz⟩ := T.tI.z
  refine F.ok (k := 168) scLw (fun vs H Q E h => ?_) (fun cdv A0 outer s0 H vs Q E hr h => ?_)
  · obtain ⟨a, ns, rfl, _⟩ := h
    rfl
  · obtain ⟨a, ns, rfl, ha, hns, q⟩ := h
    obtain ⟨tr, htr, hrest⟩ := law_tail (base := base) (H := H) (E := E) (outer := outer) T TE hr
    refine ⟨_, pss_cons (ps_set (i := 1) scLw.nd rfl (Or.inl rfl) (pe_call GS hr rfl T.tL.S.g T.tL.S.F.kp T.tL.S.b .nil pass0 (pa_cons (pv 0) pa_nil)))
      (pss_cons (ps_set (i := 2) scLw.nd rfl (Or.inl rfl) (pe_op op_add pe_int (pe_call GT hr rfl T.tL.T.g T.tL.T.F.kp T.tL.T.b .nil pass0 (pa_cons (pv 1) (pa_cons pe_int pa_nil)))))
      (pss_cons (ps_set (i := 3) scLw.nd rfl (Or.inl rfl) (pe_call GT hr rfl T.tL.T.g T.tL.T.F.kp T.tL.T.b .nil pass0 (pa_cons (pv 1) (pa_cons pe_int pa_nil))))
      (pss_cons (ps_set (i := 4) scLw.nd rfl (Or.inl rfl) (pe_ix ix_list (pe_lst (pa_cons (pe_tup (pa_cons pe_str (pa_cons pe_int pa_nil))) (pa_cons (pe_tup (pa_cons pe_str (pa_cons pe_str (pa_cons (pe_tup (pa_cons pe_str (pa_cons (pe_tup (pa_cons pe_str (pa_cons pe_str pa_nil))) pa_nil))) pa_nil))))
        (pa_cons (pe_tup (pa_cons pe_str (pa_cons (pe_tup (pa_cons pe_str (pa_cons pe_int pa_nil))) (pa_cons (pe_tup (pa_cons pe_str (pa_cons pe_int pa_nil))) pa_nil)))) pa_nil)))) (pv 3) (fun _ _ => rfl)))
      (pss_cons (ps_set (i := 5) scLw.nd rfl (Or.inl rfl) (pe_ix ix_list (pe_lst (pa_cons (pe_tup (pa_cons pe_str pa_nil)) (pa_cons (pe_tup (pa_cons pe_str (pa_cons (pe_tup (pa_cons pe_str pa_nil)) (pa_cons (pe_tup pa_nil) (pa_cons (pe_tup (pa_cons pe_str pa_nil)) pa_nil)))))
        (pa_cons (pe_tup (pa_cons pe_str (pa_cons (pe_tup (pa_cons pe_str pa_nil)) (pa_cons (pe_tup (pa_cons pe_str pa_nil)) pa_nil)))) pa_nil)))) (pv 3) (fun _ _ => rfl)))
      (pss_cons (ps_set (i := 6) scLw.nd rfl (Or.inl rfl) (pe_call GZ hr rfl T.tL.Z.g T.tL.Z.F.kp T.tL.Z.b .nil pass0 (pa_cons (pv 5) pa_nil)))
      (pss_cons (ps_for PassesOwn.never rfl (pi_range1 (by rfl) T.tB.rng (pa_cons (pv 2) pa_nil)) (pg_name (i := 7) scLw.nd rfl (Or.inl rfl))
        (pss_one (ps_set (i := 6) scLw.nd rfl (Or.inl rfl) (pe_op op_add (pe_op op_mul pe_int (pv 6)) pe_int))))
      (pss_cons (ps_set (i := 8) scLw.nd rfl (Or.inl rfl) (pe_call GO hr rfl T.tL.O.g T.tL.O.F.kp T.tL.O.b .nil pass0 (pa_cons (pe_call GC hr rfl T.tL.C.g T.tL.C.F.kp T.tL.C.b .nil pass0 (pa_cons (pv 4) (pa_cons (pv 2) (pa_cons (pe_tup (pa_cons pe_str (pa_cons (pe_op op_add_str pe_str (pe_callTy call_str_int (by rfl) T.tB.str (by decide +kernel) (pa_cons (pv 2) pa_nil))) pa_nil))) pa_nil)))) pa_nil)))
      (pss_cons (ps_if (pt_cmpR op_ne (pe_glob (v := V.int 1000) rfl hz ⟨_, rfl⟩) pe_int (nomark _)) (pss_one (ps_ret pe_bl)) pss_nil)
      (pss_cons (ps_if (pt_cmpR op_gt (pv 6) pe_int (nomark _))
        (pss_one (ps_if (pt_cmpR op_ne (pv 8) pe_str (nomark _)) (pss_one (ps_ret pe_bl)) pss_nil))
        (pss_one (ps_if (pt_cmpR (op_neD hr.units) (pv 8) (pe_call GD hr rfl T.tL.D.g T.tL.D.F.kp T.tL.D.b .nil pass0 (pa_cons (pv 5) (pa_cons (pv 2) pa_nil))) (nomark _)) (pss_one (ps_ret pe_bl)) pss_nil)))
      htr))))))))), ?_⟩
    refine ⟨_, rfl, a, ns, rfl, ha, fun H1 p cl cells S1 => ?_⟩
    refine ⟨_, rfl, p, cl, 0, cells, 14, rfl, S1, by decide, by decide, by decide, fun H2 d c2 cells2 x2 S2 hc2 hd => ?_⟩
    refine ⟨_, _, rfl, rfl, ?_⟩
    have ed : (fun i j : Int => V.int (i + j)) 1 ((d : Nat) : Int) = V.int ((d + 1 : Nat) : Int) := congrArg V.int (by omega)
    rw [ed]
    refine ⟨_, rfl, p, cl, c2, cells2, 3, rfl, S2, by omega, by decide, by decide, fun H3 k c3 cells3 x3 S3 hc3 hk => ?_⟩
    clear x2 x3 S1 S2
    -- the value
    refine ⟨(by show 2 ≤ sizeLine; decide), fun a1 ha1 => ?_⟩
    have sa1 := same_new ha1 (.tup [.str "num", .int 1])
    refine ⟨(by show 2 ≤ sizeLine; decide), fun a2 ha2 => ?_⟩
    have sa2 := same_new ha2 (.tup [.str "name", .str "x"])
    refine ⟨(by show 2 ≤ sizeLine; decide), fun a3 ha3 => ?_⟩
    have sa3 := same_new ha3 (.tup [.str "not", .ref a2])
    refine ⟨(by show 3 ≤ sizeLine; decide), fun a4 ha4 => ?_⟩
    have sa4 := same_new ha4 (.tup [.str "fun", .str "x", .ref a3])
    refine ⟨(by show 2 ≤ sizeLine; decide), fun a5 ha5 => ?_⟩
    have sa5 := same_new ha5 (.tup [.str "num", .int 1])
    refine ⟨(by show 2 ≤ sizeLine; decide), fun a6 ha6 => ?_⟩
    have sa6 := same_new ha6 (.tup [.str "num", .int 2])
    refine ⟨(by show 3 ≤ sizeLine; decide), fun a7 ha7 => ?_⟩
    have sa7 := same_new ha7 (.tup [.str "pair", .ref a5, .ref a6])
    refine ⟨(by show 3 ≤ sizeLine; decide), fun a8 ha8 => ?_⟩
    have sa8 := same_new ha8 (.lst [.ref a1, .ref a4, .ref a7])
    have sA : Same H3 (upd (upd (upd (upd (upd (upd (upd (upd H3 a1 (.tup [.str "num", .int 1])) a2 (.tup [.str "name", .str "x"])) a3 (.tup [.str "not", .ref a2])) a4 (.tup [.str "fun", .str "x", .ref a3])) a5 (.tup [.str "num", .int 1])) a6 (.tup [.str "num", .int 2])) a7 (.tup [.str "pair", .ref a5, .ref a6])) a8 (.lst [.ref a1, .ref a4, .ref a7])) := sa1.trans (sa2.trans (sa3.trans (sa4.trans (sa5.trans (sa6.trans (sa7.trans (sa8)))))))
    have f8 : (upd (upd (upd (upd (upd (upd (upd (upd H3 a1 (.tup [.str "num", .int 1])) a2 (.tup [.str "name", .str "x"])) a3 (.tup [.str "not", .ref a2])) a4 (.tup [.str "fun", .str "x", .ref a3])) a5 (.tup [.str "num", .int 1])) a6 (.tup [.str "num", .int 2])) a7 (.tup [.str "pair", .ref a5, .ref a6])) a8 (.lst [.ref a1, .ref a4, .ref a7])) a8 = some (.lst [.ref a1, .ref a4, .ref a7]) := upd_same
    have g1 : (upd (upd (upd (upd (upd (upd (upd (upd H3 a1 (.tup [.str "num", .int 1])) a2 (.tup [.str "name", .str "x"])) a3 (.tup [.str "not", .ref a2])) a4 (.tup [.str "fun", .str "x", .ref a3])) a5 (.tup [.str "num", .int 1])) a6 (.tup [.str "num", .int 2])) a7 (.tup [.str "pair", .ref a5, .ref a6])) a8 (.lst [.ref a1, .ref a4, .ref a7])) a1 = some (.tup [.str "num", .int 1]) := sa8 _ _ (sa7 _ _ (sa6 _ _ (sa5 _ _ (sa4 _ _ (sa3 _ _ (sa2 _ _ upd_same))))))
    have g2 : (upd (upd (upd (upd (upd (upd (upd (upd H3 a1 (.tup [.str "num", .int 1])) a2 (.tup [.str "name", .str "x"])) a3 (.tup [.str "not", .ref a2])) a4 (.tup [.str "fun", .str "x", .ref a3])) a5 (.tup [.str "num", .int 1])) a6 (.tup [.str "num", .int 2])) a7 (.tup [.str "pair", .ref a5, .ref a6])) a8 (.lst [.ref a1, .ref a4, .ref a7])) a2 = some (.tup [.str "name", .str "x"]) := sa8 _ _ (sa7 _ _ (sa6 _ _ (sa5 _ _ (sa4 _ _ (sa3 _ _ upd_same)))))
    have g3 : (upd (upd (upd (upd (upd (upd (upd (upd H3 a1 (.tup [.str "num", .int 1])) a2 (.tup [.str "name", .str "x"])) a3 (.tup [.str "not", .ref a2])) a4 (.tup [.str "fun", .str "x", .ref a3])) a5 (.tup [.str "num", .int 1])) a6 (.tup [.str "num", .int 2])) a7 (.tup [.str "pair", .ref a5, .ref a6])) a8 (.lst [.ref a1, .ref a4, .ref a7])) a3 = some (.tup [.str "not", .ref a2]) := sa8 _ _ (sa7 _ _ (sa6 _ _ (sa5 _ _ (sa4 _ _ upd_same))))
    have g4 : (upd (upd (upd (upd (upd (upd (upd (upd H3 a1 (.tup [.str "num", .int 1])) a2 (.tup [.str "name", .str "x"])) a3 (.tup [.str "not", .ref a2])) a4 (.tup [.str "fun", .str "x", .ref a3])) a5 (.tup [.str "num", .int 1])) a6 (.tup [.str "num", .int 2])) a7 (.tup [.str "pair", .ref a5, .ref a6])) a8 (.lst [.ref a1, .ref a4, .ref a7])) a4 = some (.tup [.str "fun", .str "x", .ref a3]) := sa8 _ _ (sa7 _ _ (sa6 _ _ (sa5 _ _ upd_same)))
    have g5 : (upd (upd (upd (upd (upd (upd (upd (upd H3 a1 (.tup [.str "num", .int 1])) a2 (.tup [.str "name", .str "x"])) a3 (.tup [.str "not", .ref a2])) a4 (.tup [.str "fun", .str "x", .ref a3])) a5 (.tup [.str "num", .int 1])) a6 (.tup [.str "num", .int 2])) a7 (.tup [.str "pair", .ref a5, .ref a6])) a8 (.lst [.ref a1, .ref a4, .ref a7])) a5 = some (.tup [.str "num", .int 1]) := sa8 _ _ (sa7 _ _ (sa6 _ _ upd_same))
    have g6 : (upd (upd (upd (upd (upd (upd (upd (upd H3 a1 (.tup [.str "num", .int 1])) a2 (.tup [.str "name", .str "x"])) a3 (.tup [.str "not", .ref a2])) a4 (.tup [.str "fun", .str "x", .ref a3])) a5 (.tup [.str "num", .int 1])) a6 (.tup [.str "num", .int 2])) a7 (.tup [.str "pair", .ref a5, .ref a6])) a8 (.lst [.ref a1, .ref a4, .ref a7])) a6 = some (.tup [.str "num", .int 2]) := sa8 _ _ (sa7 _ _ upd_same)
    have g7 : (upd (upd (upd (upd (upd (upd (upd (upd H3 a1 (.tup [.str "num", .int 1])) a2 (.tup [.str "name", .str "x"])) a3 (.tup [.str "not", .ref a2])) a4 (.tup [.str "fun", .str "x", .ref a3])) a5 (.tup [.str "num", .int 1])) a6 (.tup [.str "num", .int 2])) a7 (.tup [.str "pair", .ref a5, .ref a6])) a8 (.lst [.ref a1, .ref a4, .ref a7])) a7 = some (.tup [.str "pair", .ref a5, .ref a6]) := sa8 _ _ upd_same
    generalize (upd (upd (upd (upd (upd (upd (upd (upd H3 a1 (.tup [.str "num", .int 1])) a2 (.tup [.str "name", .str "x"])) a3 (.tup [.str "not", .ref a2])) a4 (.tup [.str "fun", .str "x", .ref a3])) a5 (.tup [.str "num", .int 1])) a6 (.tup [.str "num", .int 2])) a7 (.tup [.str "pair", .ref a5, .ref a6])) a8 (.lst [.ref a1, .ref a4, .ref a7])) = H4 at sA f8 g1 g2 g3 g4 g5 g6 g7 ⊢
    clear sa1 sa2 sa3 sa4 sa5 sa6 sa7 sa8
    obtain ⟨vv, hvk, hv⟩ : ∃ vv, ([V.ref a1, V.ref a4, V.ref a7] : List V)[k]? = some vv ∧ ExpAt K H4 (value k) vv := by
      rcases k3 hk with rfl | rfl | rfl
      · exact ⟨_, rfl, a1, rfl, Tp.of g1⟩
      · exact ⟨_, rfl, a4, .ref a3, rfl, Tp.of g4, a3, .ref a2, rfl, Tp.of g3, a2, rfl, Tp.of g2⟩
      · exact ⟨_, rfl, a7, .ref a5, .ref a6, rfl, Tp.of g7, ⟨a5, rfl, Tp.of g5⟩, a6, rfl, Tp.of g6⟩
    refine ⟨_, rfl, a8, _, _, vv, rfl, rfl, SqL.of f8, atI_nat hvk, ?_⟩
    have S4 := S3.same sA
    -- the known
    refine ⟨(by show 1 ≤ sizeLine; decide), fun b1 hb1 => ?_⟩
    have sb1 := same_new hb1 (.tup [.str "int"])
    refine ⟨(by show 1 ≤ sizeLine; decide), fun b2 hb2 => ?_⟩
    have sb2 := same_new hb2 (.tup [.str "bool"])
    refine ⟨(by show 0 ≤ sizeLine; decide), fun b3 hb3 => ?_⟩
    have sb3 := same_new hb3 (.tup [])
    refine ⟨(by show 1 ≤ sizeLine; decide), fun b4 hb4 => ?_⟩
    have sb4 := same_new hb4 (.tup [.str "bool"])
    refine ⟨(by show 4 ≤ sizeLine; decide), fun b5 hb5 => ?_⟩
    have sb5 := same_new hb5 (.tup [.str "fun", .ref b2, .ref b3, .ref b4])
    refine ⟨(by show 1 ≤ sizeLine; decide), fun b6 hb6 => ?_⟩
    have sb6 := same_new hb6 (.tup [.str "int"])
    refine ⟨(by show 1 ≤ sizeLine; decide), fun b7 hb7 => ?_⟩
    have sb7 := same_new hb7 (.tup [.str "int"])
    refine ⟨(by show 3 ≤ sizeLine; decide), fun b8 hb8 => ?_⟩
    have sb8 := same_new hb8 (.tup [.str "pair", .ref b6, .ref b7])
    refine ⟨(by show 3 ≤ sizeLine; decide), fun b9 hb9 => ?_⟩
    have sb9 := same_new hb9 (.lst [.ref b1, .ref b5, .ref b8])
    have sB : Same H4 (upd (upd (upd (upd (upd (upd (upd (upd (upd H4 b1 (.tup [.str "int"])) b2 (.tup [.str "bool"])) b3 (.tup [])) b4 (.tup [.str "bool"])) b5 (.tup [.str "fun", .ref b2, .ref b3, .ref b4])) b6 (.tup [.str "int"])) b7 (.tup [.str "int"])) b8 (.tup [.str "pair", .ref b6, .ref b7])) b9 (.lst [.ref b1, .ref b5, .ref b8])) := sb1.trans (sb2.trans (sb3.trans (sb4.trans (sb5.trans (sb6.trans (sb7.trans (sb8.trans (sb9))))))))
    have f9 : (upd (upd (upd (upd (upd (upd (upd (upd (upd H4 b1 (.tup [.str "int"])) b2 (.tup [.str "bool"])) b3 (.tup [])) b4 (.tup [.str "bool"])) b5 (.tup [.str "fun", .ref b2, .ref b3, .ref b4])) b6 (.tup [.str "int"])) b7 (.tup [.str "int"])) b8 (.tup [.str "pair", .ref b6, .ref b7])) b9 (.lst [.ref b1, .ref b5, .ref b8])) b9 = some (.lst [.ref b1, .ref b5, .ref b8]) := upd_same
    have k1 : (upd (upd (upd (upd (upd (upd (upd (upd (upd H4 b1 (.tup [.str "int"])) b2 (.tup [.str "bool"])) b3 (.tup [])) b4 (.tup [.str "bool"])) b5 (.tup [.str "fun", .ref b2, .ref b3, .ref b4])) b6 (.tup [.str "int"])) b7 (.tup [.str "int"])) b8 (.tup [.str "pair", .ref b6, .ref b7])) b9 (.lst [.ref b1, .ref b5, .ref b8])) b1 = some (.tup [.str "int"]) := sb9 _ _ (sb8 _ _ (sb7 _ _ (sb6 _ _ (sb5 _ _ (sb4 _ _ (sb3 _ _ (sb2 _ _ upd_same)))))))
    have k2 : (upd (upd (upd (upd (upd (upd (upd (upd (upd H4 b1 (.tup [.str "int"])) b2 (.tup [.str "bool"])) b3 (.tup [])) b4 (.tup [.str "bool"])) b5 (.tup [.str "fun", .ref b2, .ref b3, .ref b4])) b6 (.tup [.str "int"])) b7 (.tup [.str "int"])) b8 (.tup [.str "pair", .ref b6, .ref b7])) b9 (.lst [.ref b1, .ref b5, .ref b8])) b2 = some (.tup [.str "bool"]) := sb9 _ _ (sb8 _ _ (sb7 _ _ (sb6 _ _ (sb5 _ _ (sb4 _ _ (sb3 _ _ upd_same))))))
    have k3' : (upd (upd (upd (upd (upd (upd (upd (upd (upd H4 b1 (.tup [.str "int"])) b2 (.tup [.str "bool"])) b3 (.tup [])) b4 (.tup [.str "bool"])) b5 (.tup [.str "fun", .ref b2, .ref b3, .ref b4])) b6 (.tup [.str "int"])) b7 (.tup [.str "int"])) b8 (.tup [.str "pair", .ref b6, .ref b7])) b9 (.lst [.ref b1, .ref b5, .ref b8])) b3 = some (.tup []) := sb9 _ _ (sb8 _ _ (sb7 _ _ (sb6 _ _ (sb5 _ _ (sb4 _ _ upd_same)))))
    have k4 : (upd (upd (upd (upd (upd (upd (upd (upd (upd H4 b1 (.tup [.str "int"])) b2 (.tup [.str "bool"])) b3 (.tup [])) b4 (.tup [.str "bool"])) b5 (.tup [.str "fun", .ref b2, .ref b3, .ref b4])) b6 (.tup [.str "int"])) b7 (.tup [.str "int"])) b8 (.tup [.str "pair", .ref b6, .ref b7])) b9 (.lst [.ref b1, .ref b5, .ref b8])) b4 = some (.tup [.str "bool"]) := sb9 _ _ (sb8 _ _ (sb7 _ _ (sb6 _ _ (sb5 _ _ upd_same))))
    have k5 : (upd (upd (upd (upd (upd (upd (upd (upd (upd H4 b1 (.tup [.str "int"])) b2 (.tup [.str "bool"])) b3 (.tup [])) b4 (.tup [.str "bool"])) b5 (.tup [.str "fun", .ref b2, .ref b3, .ref b4])) b6 (.tup [.str "int"])) b7 (.tup [.str "int"])) b8 (.tup [.str "pair", .ref b6, .ref b7])) b9 (.lst [.ref b1, .ref b5, .ref b8])) b5 = some (.tup [.str "fun", .ref b2, .ref b3, .ref b4]) := sb9 _ _ (sb8 _ _ (sb7 _ _ (sb6 _ _ upd_same)))
    have k6 : (upd (upd (upd (upd (upd (upd (upd (upd (upd H4 b1 (.tup [.str "int"])) b2 (.tup [.str "bool"])) b3 (.tup [])) b4 (.tup [.str "bool"])) b5 (.tup [.str "fun", .ref b2, .ref b3, .ref b4])) b6 (.tup [.str "int"])) b7 (.tup [.str "int"])) b8 (.tup [.str "pair", .ref b6, .ref b7])) b9 (.lst [.ref b1, .ref b5, .ref b8])) b6 = some (.tup [.str "int"]) := sb9 _ _ (sb8 _ _ (sb7 _ _ upd_same))
    have k7 : (upd (upd (upd (upd (upd (upd (upd (upd (upd H4 b1 (.tup [.str "int"])) b2 (.tup [.str "bool"])) b3 (.tup [])) b4 (.tup [.str "bool"])) b5 (.tup [.str "fun", .ref b2, .ref b3, .ref b4])) b6 (.tup [.str "int"])) b7 (.tup [.str "int"])) b8 (.tup [.str "pair", .ref b6, .ref b7])) b9 (.lst [.ref b1, .ref b5, .ref b8])) b7 = some (.tup [.str "int"]) := sb9 _ _ (sb8 _ _ upd_same)
    have k8 : (upd (upd (upd (upd (upd (upd (upd (upd (upd H4 b1 (.tup [.str "int"])) b2 (.tup [.str "bool"])) b3 (.tup [])) b4 (.tup [.str "bool"])) b5 (.tup [.str "fun", .ref b2, .ref b3, .ref b4])) b6 (.tup [.str "int"])) b7 (.tup [.str "int"])) b8 (.tup [.str "pair", .ref b6, .ref b7])) b9 (.lst [.ref b1, .ref b5, .ref b8])) b8 = some (.tup [.str "pair", .ref b6, .ref b7]) := sb9 _ _ upd_same
    generalize (upd (upd (upd (upd (upd (upd (upd (upd (upd H4 b1 (.tup [.str "int"])) b2 (.tup [.str "bool"])) b3 (.tup [])) b4 (.tup [.str "bool"])) b5 (.tup [.str "fun", .ref b2, .ref b3, .ref b4])) b6 (.tup [.str "int"])) b7 (.tup [.str "int"])) b8 (.tup [.str "pair", .ref b6, .ref b7])) b9 (.lst [.ref b1, .ref b5, .ref b8])) = H5 at sB f9 k1 k2 k3' k4 k5 k6 k7 k8 ⊢
    clear sb1 sb2 sb3 sb4 sb5 sb6 sb7 sb8 sb9
    obtain ⟨kv, hkk, hkv⟩ : ∃ kv, ([V.ref b1, V.ref b5, V.ref b8] : List V)[k]? = some kv ∧ RtAt K H5 (known k) kv := by
      rcases k3 hk with rfl | rfl | rfl
      · exact ⟨_, rfl, b1, rfl, Tp.of k1⟩
      · exact ⟨_, rfl, b5, b3, .ref b2, .ref b4, rfl, Tp.of k5, Tp.of k3', ⟨b2, rfl, Tp.of k2⟩, b4, rfl, Tp.of k4⟩
      · exact ⟨_, rfl, b8, .ref b6, .ref b7, rfl, Tp.of k8, ⟨b6, rfl, Tp.of k6⟩, b7, rfl, Tp.of k7⟩
    refine ⟨_, rfl, b9, _, _, kv, rfl, rfl, SqL.of f9, atI_nat hkk, ?_⟩
    have S5 := S4.same sB
    have hv5 := hv.ext (sExt sB)
    clear S3 S4 hv k1 k2 k3' k4 k5 k6 k7 k8 g1 g2 g3 g4 g5 g6 g7 f8 f9 sA sB
    -- the size
    obtain ⟨l1, l2, l3⟩ := lsz_known k hk
    refine ⟨_, rfl, known k, kv, rfl, hkv, l2, by omega, ?_⟩
    refine ⟨_, rfl, _, rfl, by omega, by omega, for_range (lo := 0) (n := d + 1) (fun i σ H2 => (∃ o7, σ = [some (.ref a), some (.ref p), some (.int ((d + 1 : Nat) : Int)), some (.int (k : Nat)), some vv, some kv, some (.int ((szk (rsz (known k)) i : Nat) : Int)), o7, none, none, none, none]) ∧ H2 = H5) ⟨⟨none, by rw [l1]; rfl⟩, rfl⟩ ?_ ?_⟩
    · rintro j σ H2 hj ⟨⟨o7', rfl⟩, rfl⟩
      refine ⟨_, rfl, _, _, rfl, rfl, .inl ⟨by decide, by decide⟩, _, _, rfl, rfl, ⟨some (.int (0 + ((j : Nat) : Int))), ?_⟩, rfl⟩
      have e2 : (fun i j : Int => V.int (i + j)) (2 * ((szk (rsz (known k)) j : Nat) : Int)) 1 = V.int ((szk (rsz (known k)) (j + 1) : Nat) : Int) := congrArg V.int (by simp only [szk]; omega)
      rw [← e2]
      rfl
    rintro σ H6 ⟨⟨o7', rfl⟩, rfl⟩
    -- told
    refine ⟨_, rfl, _, rfl, _, rfl, _, rfl, vlog _ (by omega), _, _, rfl, rfl, vlen _ (by omega), ?_⟩
    rw [vname (d + 1) (by omega)]
    refine ⟨(by show 2 ≤ sizeLine; decide), fun p1 hp1 => ?_⟩
    have s1 := same_new hp1 (.tup [.str "name", .str (nm (vn (d + 1)))])
    refine ⟨value k, .name (vn (d + 1)), vv, .ref p1, d + 1, rfl, hv5.ext (sExt s1), ⟨p1, rfl, Tp.of upd_same⟩, by omega, fun H7 ev s7 he => ?_⟩
    refine ⟨_, ev, rfl, he, dep_one k hk d hd, ToldE.of (by rcases one_get hk hd with ⟨_, e⟩ | ⟨_, e⟩ <;> rw [e] <;> exact fun z => by cases z) fun H8 tv s8 ht => ?_⟩
    have s18 := s1.trans (s7.trans s8)
    have S8 := S5.same s18
    have hv8 := hv5.ext (sExt s18)
    have hk8 := hkv.ext (sExt s18)
    clear s1 s7 s8 s18 he hp1 S5 hv5 hkv
    refine ⟨rfl, _, rfl, ?_⟩
    rw [show (!decide (V.int 1000 = V.int 1000)) = false by decide +kernel]
    refine iteF ?_
    refine ⟨_, rfl, _, _, rfl, rfl, _, rfl, ?_⟩
    rcases one_get hk hd with ⟨c1, c2'⟩ | ⟨c1, c2'⟩
    · rw [decide_eq_true (show (1000 : Int) < ((szk (rsz (known k)) (d + 1) : Nat) : Int) by omega)]
      rw [c2'] at ht
      have e : tv = .str "types" := ht
      subst e
      refine iteT ⟨_, rfl, rfl, _, rfl, ?_⟩
      rw [show (!decide (V.str "types" = V.str "types")) = false by decide +kernel]
      exact iteF (hrest _ _ _ _ _ p cl _ _ d k _ _ _ q S8 (by omega) hd hk hv8 hk8)
    · rw [decide_eq_false (show ¬ (1000 : Int) < ((szk (rsz (known k)) (d + 1) : Nat) : Int) by omega)]
      rw [c2'] at ht
      have ht' : RtAt K H8 (due (known k) (d + 1)) tv := ht
      refine iteF ⟨_, rfl, _, rfl, _, rfl, known k, kv, d + 1, rfl, hk8, by omega, fun H9 dv s9 hdv => ?_⟩
      have hsh : SeqAt.shaped (due (known k) (d + 1)).data = true := rt_shaped (by have := due_dep (known k) (d + 1); omega)
      refine ⟨_, _, (ht'.ext (sExt s9)).dp, hdv.dp, hsh, hsh, _, rfl, ?_⟩
      rw [eqv_refl]
      exact iteF (hrest _ _ _ _ _ p cl _ _ d k _ _ _ q (S8.same s9) (by omega) hd hk (hv8.ext (sExt s9)) (hk8.ext (sExt s9)))
end
end K9
/-! What the top has written, collected. (printed by gen.py) -/
namespace K9
open PySem L2
theorem sup_of {K : PySem.W.Frag} {C F : Addr} {nm q : Str} {N : Addr} {bs : List Value} {sn : List Str} {sub : List Value} {ab : Bool} {col : Option Bool} {dd : Option Addr} {k0 k1 k2 k3 k5 : Option Value} {ocF : Value} {odF : Option Addr} {cdF : ClassData} {slF : Array (Option Value)}
    (xU : K.lookup C = some (excClassObj nm q C N bs [.ref F, .type "ValueError", .type "Exception", .type "BaseException", .type "object"] true sn sub ab col dd k0 k1 k2 k3 k5 "ValueError.__new__"))
    (xF : K.lookup F = some ⟨ocF, odF, .cls cdF, slF⟩) (nF : PySem.W.nsIn K cdF.ns "__init__" = some none) : PySem.W.ks_superIn K C C "__init__" = some (some (.builtin "ValueError.__init__")) := by
  have e0 : PySem.W.clsIn K C = some { name := nm, bases := bs, mro := .ref C :: [.ref F, .type "ValueError", .type "Exception", .type "BaseException", .type "object"], ns := N, qualname := q, hasDict := true, slotNames := sn, subclasses := sub, abstract := ab, collection := col, hasDel := false } := by unfold PySem.W.clsIn; rw [xU] <;> rfl
  unfold PySem.W.ks_superIn
  rw [e0]
  have e1 : PySem.W.ownIn K "__init__" (.ref F) = some none := by
    unfold PySem.W.ownIn
    dsimp only
    rw [xF]
    exact nF
  have e2 : PySem.W.ownIn K "__init__" (.type "ValueError") = some (some (.builtin "ValueError.__init__")) := by
    show some (fastBuiltinOwn "ValueError" "__init__") = _
    rw [show fastBuiltinOwn "ValueError" "__init__" = some (.builtin "ValueError.__init__") by decide +kernel]
  have e3 : ((Value.ref C :: [.ref F, .type "ValueError", .type "Exception", .type "BaseException", .type "object"]).dropWhile (· != .ref C)).drop 1 = [.ref F, .type "ValueError", .type "Exception", .type "BaseException", .type "object"] := by
    rw [List.dropWhile_cons_of_neg (by simp)]
    rfl
  show PySem.W.alongIn K "__init__" (((Value.ref C :: [.ref F, .type "ValueError", .type "Exception", .type "BaseException", .type "object"]).dropWhile (· != .ref C)).drop 1) = _
  rw [e3]
  unfold PySem.W.alongIn
  rw [e1]
  dsimp only
  unfold PySem.W.alongIn
  rw [e2]
theorem kitC_of {K : PySem.W.Frag} {U F : Addr} {b : Bool} (h2 : PySem.W.isClsIn K F = true) (h3 : PySem.W.typeIn K (.ref F) = some (.type "type")) (h4 : PySem.W.subIn K (.ref U) (.ref F) = some b) : PySem.W.kitCls K (.ref U) (.ref F) = some b := by
  have e2 : ((PySem.W.clsIn K F).isSome && PySem.W.typeIn K (.ref F) == some (.type "type")) = true := by
    have h2' : (PySem.W.clsIn K F).isSome = true := h2
    rw [h2', h3] <;> rfl
  show (if ((PySem.W.clsIn K F).isSome && PySem.W.typeIn K (.ref F) == some (.type "type")) = true then PySem.W.subIn K (.ref U) (.ref F) else none) = some b
  rw [if_pos e2]
  exact h4
theorem exm_two {K : PySem.W.Frag} {U F : Addr} (h1 : PySem.W.subIn K (.ref F) (.type "BaseException") = some true) (h2 : PySem.W.isClsIn K F = true) (h3 : PySem.W.typeIn K (.ref F) = some (.type "type")) (h4 : PySem.W.subIn K (.ref U) (.ref F) = some true) : PySem.W.exmOne K (.ref U) (.ref F) = some true := by
  have e1 : (PySem.W.subIn K (.ref F) (.type "BaseException") == some true) = true := by rw [h1] <;> rfl
  show (if (PySem.W.subIn K (.ref F) (.type "BaseException") == some true) = true then PySem.W.kitCls K (.ref U) (.ref F) else none) = some true
  rw [if_pos e1]
  exact kitC_of h2 h3 h4
theorem kit_self {K : PySem.W.Frag} {U : Addr} : PySem.W.kitOne K (.ref U) (.ref U) = some true := by
  unfold PySem.W.kitOne
  rw [if_pos (by simp)]
theorem kit_not {K : PySem.W.Frag} {U M : Addr} (h0 : PySem.W.subIn K (.ref U) (.ref U) = some true) (h2 : PySem.W.isClsIn K M = true) (h3 : PySem.W.typeIn K (.ref M) = some (.type "type")) (h4 : PySem.W.subIn K (.ref U) (.ref M) = some false) : PySem.W.kitOne K (.ref U) (.ref M) = some false := by
  unfold PySem.W.kitOne
  by_cases e : (Value.ref U == Value.ref M) = true
  · have e' := eq_of_beq e
    rw [e', ← e', h0] at h4
    cases h4
  · rw [if_neg e]
    exact kitC_of h2 h3 h4
theorem kt_of {K : PySem.W.Frag} {a : Addr} {x : Str} {od : Option Addr} {t : Tok} {n : Nat} {sl : Array (Option Value)} (h : K.lookup a = some ⟨.type "tuple", od, .seq #[.str x t] n, sl⟩) : KT K a x := ⟨_, _, _, h, rfl, rfl, (by show 1 ≤ sizeLine; decide), .cons ⟨_, rfl⟩ .nil⟩
theorem all_mk {P : Program} {w : World} {K : PySem.W.Frag} {h : Heap} {mg : Str → Option Value} {fa cR cK cI cU cF cM aI aB aU aC f_u cdU ccU : Addr} {f_rI f_rF f_rT f_rW f_rS f_rL f_kI f_kF f_kS f_kN f_kC f_kU f_kB f_kZ f_kT f_iI f_iV f_iP f_iF f_iJ f_iG f_iC f_sg f_lk f_inf f_qS f_qT f_qC f_qZ f_qO f_qD f_lw : Addr}
    {od_rI an_rI od_rF an_rF od_rT an_rT od_rW an_rW od_rS an_rS od_rL an_rL od_kI an_kI od_kF an_kF od_kS an_kS od_kN an_kN od_kC an_kC od_kU an_kU od_kB an_kB od_kZ an_kZ od_kT an_kT od_iI an_iI od_iV an_iV od_iP an_iP od_iF an_iF od_iJ an_iJ od_iG an_iG od_iC an_iC od_sg an_sg od_lk an_lk od_inf an_inf od_qS an_qS od_qT an_qT od_qC an_qC od_qZ an_qZ od_qO an_qO od_qD an_qD od_lw an_lw : Option Addr} {sl_rI sl_rF sl_rT sl_rW sl_rS sl_rL sl_kI sl_kF sl_kS sl_kN sl_kC sl_kU sl_kB sl_kZ sl_kT sl_iI sl_iV sl_iP sl_iF sl_iJ sl_iG sl_iC sl_sg sl_lk sl_inf sl_qS sl_qT sl_qC sl_qZ sl_qO sl_qD sl_lw : Array (Option Value)} {oc_rI kV_rI dc_rI pm_rI cd_rI ct_rI oc_rF kV_rF dc_rF pm_rF cd_rF ct_rF oc_rT kV_rT dc_rT pm_rT cd_rT ct_rT oc_rW kV_rW dc_rW pm_rW cd_rW ct_rW oc_rS kV_rS dc_rS pm_rS cd_rS ct_rS oc_rL kV_rL dc_rL pm_rL cd_rL ct_rL oc_kI kV_kI dc_kI pm_kI cd_kI ct_kI oc_kF kV_kF dc_kF pm_kF cd_kF ct_kF oc_kS kV_kS dc_kS pm_kS cd_kS ct_kS oc_kN kV_kN dc_kN pm_kN cd_kN ct_kN oc_kC kV_kC dc_kC pm_kC cd_kC ct_kC oc_kU kV_kU dc_kU pm_kU cd_kU ct_kU oc_kB kV_kB dc_kB pm_kB cd_kB ct_kB oc_kZ kV_kZ dc_kZ pm_kZ cd_kZ ct_kZ oc_kT kV_kT dc_kT pm_kT cd_kT ct_kT oc_iI kV_iI dc_iI pm_iI cd_iI ct_iI oc_iV kV_iV dc_iV pm_iV cd_iV ct_iV oc_iP kV_iP dc_iP pm_iP cd_iP ct_iP oc_iF kV_iF dc_iF pm_iF cd_iF ct_iF oc_iJ kV_iJ dc_iJ pm_iJ cd_iJ ct_iJ oc_iG kV_iG dc_iG pm_iG cd_iG ct_iG oc_iC kV_iC dc_iC pm_iC cd_iC ct_iC oc_sg kV_sg dc_sg pm_sg cd_sg ct_sg oc_lk kV_lk dc_lk pm_lk cd_lk ct_lk oc_inf kV_inf dc_inf pm_inf cd_inf ct_inf oc_qS kV_qS dc_qS pm_qS cd_qS ct_qS oc_qT kV_qT dc_qT pm_qT cd_qT ct_qT oc_qC kV_qC dc_qC pm_qC cd_qC ct_qC oc_qZ kV_qZ dc_qZ pm_qZ cd_qZ ct_qZ oc_qO kV_qO dc_qO pm_qO cd_qO ct_qO oc_qD kV_qD dc_qD pm_qD cd_qD ct_qD oc_lw kV_lw dc_lw pm_lw cd_lw ct_lw : Value}
    {od_aI od_aB od_aU : Option Addr} {nn_aI nn_aB nn_aU : Nat} {t_aI t_aB t_aU : Tok} {sl_aI sl_aB sl_aU : Array (Option Value)} {tz : Tok} {esC : Array DictEntry} {nC : Nat}
    {nmU qU : Str} {nsU : Addr} {bsU : List Value} {snU : List Str} {subU : List Value} {abU : Bool} {colU : Option Bool} {ddU : Option Addr} {k0U k1U k2U k3U k5U : Option Value}
    {oc_u kV_u dc_u pm_u ct_u : Value} {od_u an_u : Option Addr} {sl_u : Array (Option Value)} {ccl : Value} {cdd : Option Addr} {cvs : Array Value} {ccs : Array (Option Value)} {cfile : Str} {ctf : Tok} {cl1 : Value} {cl2 : Option Addr} {cl3 : Array (Option Value)}
    {ocF : Value} {odF : Option Addr} {cdF : ClassData} {slF : Array (Option Value)} {cdcU : ClassData}
    (X : K.In h) (G : h.Ns mainGlobals mg) (hfa : mg "law" = some (.ref fa))
    (gcR : PySem.W.nsIn K mainGlobals "Rows" = some (some (.ref cR)))
    (gcK : PySem.W.nsIn K mainGlobals "Kinds" = some (some (.ref cK)))
    (gcI : PySem.W.nsIn K mainGlobals "Inferrer" = some (some (.ref cI)))
    (gcU : PySem.W.nsIn K mainGlobals "Unbounded" = some (some (.ref cU)))
    (gcF : PySem.W.nsIn K mainGlobals "Refused" = some (some (.ref cF)))
    (gcM : PySem.W.nsIn K mainGlobals "Malformed" = some (some (.ref cM)))
    (a_rI : PySem.W.findIn K (.ref cR) "__init__" = some (some (.ref f_rI)))
    (n_rI : PySem.W.isFn K (.ref f_rI) = true)
    (l_rI : K.lookup f_rI = some ⟨oc_rI, od_rI, .func (PySem.W.fnOf "__init__" "Rows.__init__" (defArgs sRinit) (defBody sRinit) (defScope sRinit) .none kV_rI dc_rI pm_rI an_rI cd_rI ct_rI), sl_rI⟩)
    (c_rI : PySem.W.codeIn K cd_rI "Rows.__init__" = true)
    (k_rI : PySem.W.keepIn K (.ref f_rI) = true)
    (a_rF : PySem.W.findIn K (.ref cR) "fresh" = some (some (.ref f_rF)))
    (n_rF : PySem.W.isFn K (.ref f_rF) = true)
    (l_rF : K.lookup f_rF = some ⟨oc_rF, od_rF, .func (PySem.W.fnOf "fresh" "Rows.fresh" (defArgs sRfresh) (defBody sRfresh) (defScope sRfresh) .none kV_rF dc_rF pm_rF an_rF cd_rF ct_rF), sl_rF⟩)
    (c_rF : PySem.W.codeIn K cd_rF "Rows.fresh" = true)
    (k_rF : PySem.W.keepIn K (.ref f_rF) = true)
    (a_rT : PySem.W.findIn K (.ref cR) "root" = some (some (.ref f_rT)))
    (n_rT : PySem.W.isFn K (.ref f_rT) = true)
    (l_rT : K.lookup f_rT = some ⟨oc_rT, od_rT, .func (PySem.W.fnOf "root" "Rows.root" (defArgs sRroot) (defBody sRroot) (defScope sRroot) .none kV_rT dc_rT pm_rT an_rT cd_rT ct_rT), sl_rT⟩)
    (c_rT : PySem.W.codeIn K cd_rT "Rows.root" = true)
    (k_rT : PySem.W.keepIn K (.ref f_rT) = true)
    (a_rW : PySem.W.findIn K (.ref cR) "flow" = some (some (.ref f_rW)))
    (n_rW : PySem.W.isFn K (.ref f_rW) = true)
    (l_rW : K.lookup f_rW = some ⟨oc_rW, od_rW, .func (PySem.W.fnOf "flow" "Rows.flow" (defArgs sRflow) (defBody sRflow) (defScope sRflow) .none kV_rW dc_rW pm_rW an_rW cd_rW ct_rW), sl_rW⟩)
    (c_rW : PySem.W.codeIn K cd_rW "Rows.flow" = true)
    (k_rW : PySem.W.keepIn K (.ref f_rW) = true)
    (a_rS : PySem.W.findIn K (.ref cR) "same" = some (some (.ref f_rS)))
    (n_rS : PySem.W.isFn K (.ref f_rS) = true)
    (l_rS : K.lookup f_rS = some ⟨oc_rS, od_rS, .func (PySem.W.fnOf "same" "Rows.same" (defArgs sRsame) (defBody sRsame) (defScope sRsame) .none kV_rS dc_rS pm_rS an_rS cd_rS ct_rS), sl_rS⟩)
    (c_rS : PySem.W.codeIn K cd_rS "Rows.same" = true)
    (k_rS : PySem.W.keepIn K (.ref f_rS) = true)
    (a_rL : PySem.W.findIn K (.ref cR) "least" = some (some (.ref f_rL)))
    (n_rL : PySem.W.isFn K (.ref f_rL) = true)
    (l_rL : K.lookup f_rL = some ⟨oc_rL, od_rL, .func (PySem.W.fnOf "least" "Rows.least" (defArgs sRleast) (defBody sRleast) (defScope sRleast) .none kV_rL dc_rL pm_rL an_rL cd_rL ct_rL), sl_rL⟩)
    (c_rL : PySem.W.codeIn K cd_rL "Rows.least" = true)
    (k_rL : PySem.W.keepIn K (.ref f_rL) = true)
    (a_kI : PySem.W.findIn K (.ref cK) "__init__" = some (some (.ref f_kI)))
    (n_kI : PySem.W.isFn K (.ref f_kI) = true)
    (l_kI : K.lookup f_kI = some ⟨oc_kI, od_kI, .func (PySem.W.fnOf "__init__" "Kinds.__init__" (defArgs sKinit) (defBody sKinit) (defScope sKinit) .none kV_kI dc_kI pm_kI an_kI cd_kI ct_kI), sl_kI⟩)
    (c_kI : PySem.W.codeIn K cd_kI "Kinds.__init__" = true)
    (k_kI : PySem.W.keepIn K (.ref f_kI) = true)
    (a_kF : PySem.W.findIn K (.ref cK) "fresh" = some (some (.ref f_kF)))
    (n_kF : PySem.W.isFn K (.ref f_kF) = true)
    (l_kF : K.lookup f_kF = some ⟨oc_kF, od_kF, .func (PySem.W.fnOf "fresh" "Kinds.fresh" (defArgs sKfresh) (defBody sKfresh) (defScope sKfresh) .none kV_kF dc_kF pm_kF an_kF cd_kF ct_kF), sl_kF⟩)
    (c_kF : PySem.W.codeIn K cd_kF "Kinds.fresh" = true)
    (k_kF : PySem.W.keepIn K (.ref f_kF) = true)
    (a_kS : PySem.W.findIn K (.ref cK) "seen" = some (some (.ref f_kS)))
    (n_kS : PySem.W.isFn K (.ref f_kS) = true)
    (l_kS : K.lookup f_kS = some ⟨oc_kS, od_kS, .func (PySem.W.fnOf "seen" "Kinds.seen" (defArgs sKseen) (defBody sKseen) (defScope sKseen) .none kV_kS dc_kS pm_kS an_kS cd_kS ct_kS), sl_kS⟩)
    (c_kS : PySem.W.codeIn K cd_kS "Kinds.seen" = true)
    (k_kS : PySem.W.keepIn K (.ref f_kS) = true)
    (a_kN : PySem.W.findIn K (.ref cK) "inner" = some (some (.ref f_kN)))
    (n_kN : PySem.W.isFn K (.ref f_kN) = true)
    (l_kN : K.lookup f_kN = some ⟨oc_kN, od_kN, .func (PySem.W.fnOf "inner" "Kinds.inner" (defArgs sKinner) (defBody sKinner) (defScope sKinner) .none kV_kN dc_kN pm_kN an_kN cd_kN ct_kN), sl_kN⟩)
    (c_kN : PySem.W.codeIn K cd_kN "Kinds.inner" = true)
    (k_kN : PySem.W.keepIn K (.ref f_kN) = true)
    (a_kC : PySem.W.findIn K (.ref cK) "contains" = some (some (.ref f_kC)))
    (n_kC : PySem.W.isFn K (.ref f_kC) = true)
    (l_kC : K.lookup f_kC = some ⟨oc_kC, od_kC, .func (PySem.W.fnOf "contains" "Kinds.contains" (defArgs sKcontains) (defBody sKcontains) (defScope sKcontains) .none kV_kC dc_kC pm_kC an_kC cd_kC ct_kC), sl_kC⟩)
    (c_kC : PySem.W.codeIn K cd_kC "Kinds.contains" = true)
    (k_kC : PySem.W.keepIn K (.ref f_kC) = true)
    (a_kU : PySem.W.findIn K (.ref cK) "unify" = some (some (.ref f_kU)))
    (n_kU : PySem.W.isFn K (.ref f_kU) = true)
    (l_kU : K.lookup f_kU = some ⟨oc_kU, od_kU, .func (PySem.W.fnOf "unify" "Kinds.unify" (defArgs sKunify) (defBody sKunify) (defScope sKunify) .none kV_kU dc_kU pm_kU an_kU cd_kU ct_kU), sl_kU⟩)
    (c_kU : PySem.W.codeIn K cd_kU "Kinds.unify" = true)
    (k_kU : PySem.W.keepIn K (.ref f_kU) = true)
    (a_kB : PySem.W.findIn K (.ref cK) "bind" = some (some (.ref f_kB)))
    (n_kB : PySem.W.isFn K (.ref f_kB) = true)
    (l_kB : K.lookup f_kB = some ⟨oc_kB, od_kB, .func (PySem.W.fnOf "bind" "Kinds.bind" (defArgs sKbind) (defBody sKbind) (defScope sKbind) .none kV_kB dc_kB pm_kB an_kB cd_kB ct_kB), sl_kB⟩)
    (c_kB : PySem.W.codeIn K cd_kB "Kinds.bind" = true)
    (k_kB : PySem.W.keepIn K (.ref f_kB) = true)
    (a_kZ : PySem.W.findIn K (.ref cK) "size_within" = some (some (.ref f_kZ)))
    (n_kZ : PySem.W.isFn K (.ref f_kZ) = true)
    (l_kZ : K.lookup f_kZ = some ⟨oc_kZ, od_kZ, .func (PySem.W.fnOf "size_within" "Kinds.size_within" (defArgs sKsize) (defBody sKsize) (defScope sKsize) .none kV_kZ dc_kZ pm_kZ an_kZ cd_kZ ct_kZ), sl_kZ⟩)
    (c_kZ : PySem.W.codeIn K cd_kZ "Kinds.size_within" = true)
    (k_kZ : PySem.W.keepIn K (.ref f_kZ) = true)
    (a_kT : PySem.W.findIn K (.ref cK) "settled" = some (some (.ref f_kT)))
    (n_kT : PySem.W.isFn K (.ref f_kT) = true)
    (l_kT : K.lookup f_kT = some ⟨oc_kT, od_kT, .func (PySem.W.fnOf "settled" "Kinds.settled" (defArgs sKsettled) (defBody sKsettled) (defScope sKsettled) .none kV_kT dc_kT pm_kT an_kT cd_kT ct_kT), sl_kT⟩)
    (c_kT : PySem.W.codeIn K cd_kT "Kinds.settled" = true)
    (k_kT : PySem.W.keepIn K (.ref f_kT) = true)
    (a_iI : PySem.W.findIn K (.ref cI) "__init__" = some (some (.ref f_iI)))
    (n_iI : PySem.W.isFn K (.ref f_iI) = true)
    (l_iI : K.lookup f_iI = some ⟨oc_iI, od_iI, .func (PySem.W.fnOf "__init__" "Inferrer.__init__" (defArgs sIinit) (defBody sIinit) (defScope sIinit) .none kV_iI dc_iI pm_iI an_iI cd_iI ct_iI), sl_iI⟩)
    (c_iI : PySem.W.codeIn K cd_iI "Inferrer.__init__" = true)
    (k_iI : PySem.W.keepIn K (.ref f_iI) = true)
    (a_iV : PySem.W.findIn K (.ref cI) "visit" = some (some (.ref f_iV)))
    (n_iV : PySem.W.isFn K (.ref f_iV) = true)
    (l_iV : K.lookup f_iV = some ⟨oc_iV, od_iV, .func (PySem.W.fnOf "visit" "Inferrer.visit" (defArgs sIvisit) (defBody sIvisit) (defScope sIvisit) .none kV_iV dc_iV pm_iV an_iV cd_iV ct_iV), sl_iV⟩)
    (c_iV : PySem.W.codeIn K cd_iV "Inferrer.visit" = true)
    (k_iV : PySem.W.keepIn K (.ref f_iV) = true)
    (a_iP : PySem.W.findIn K (.ref cI) "part" = some (some (.ref f_iP)))
    (n_iP : PySem.W.isFn K (.ref f_iP) = true)
    (l_iP : K.lookup f_iP = some ⟨oc_iP, od_iP, .func (PySem.W.fnOf "part" "Inferrer.part" (defArgs sIpart) (defBody sIpart) (defScope sIpart) .none kV_iP dc_iP pm_iP an_iP cd_iP ct_iP), sl_iP⟩)
    (c_iP : PySem.W.codeIn K cd_iP "Inferrer.part" = true)
    (k_iP : PySem.W.keepIn K (.ref f_iP) = true)
    (a_iF : PySem.W.findIn K (.ref cI) "fits" = some (some (.ref f_iF)))
    (n_iF : PySem.W.isFn K (.ref f_iF) = true)
    (l_iF : K.lookup f_iF = some ⟨oc_iF, od_iF, .func (PySem.W.fnOf "fits" "Inferrer.fits" (defArgs sIfits) (defBody sIfits) (defScope sIfits) .none kV_iF dc_iF pm_iF an_iF cd_iF ct_iF), sl_iF⟩)
    (c_iF : PySem.W.codeIn K cd_iF "Inferrer.fits" = true)
    (k_iF : PySem.W.keepIn K (.ref f_iF) = true)
    (a_iJ : PySem.W.findIn K (.ref cI) "judged" = some (some (.ref f_iJ)))
    (n_iJ : PySem.W.isFn K (.ref f_iJ) = true)
    (l_iJ : K.lookup f_iJ = some ⟨oc_iJ, od_iJ, .func (PySem.W.fnOf "judged" "Inferrer.judged" (defArgs sIjudged) (defBody sIjudged) (defScope sIjudged) .none kV_iJ dc_iJ pm_iJ an_iJ cd_iJ ct_iJ), sl_iJ⟩)
    (c_iJ : PySem.W.codeIn K cd_iJ "Inferrer.judged" = true)
    (k_iJ : PySem.W.keepIn K (.ref f_iJ) = true)
    (a_iG : PySem.W.findIn K (.ref cI) "function" = some (some (.ref f_iG)))
    (n_iG : PySem.W.isFn K (.ref f_iG) = true)
    (l_iG : K.lookup f_iG = some ⟨oc_iG, od_iG, .func (PySem.W.fnOf "function" "Inferrer.function" (defArgs sIfunction) (defBody sIfunction) (defScope sIfunction) .none kV_iG dc_iG pm_iG an_iG cd_iG ct_iG), sl_iG⟩)
    (c_iG : PySem.W.codeIn K cd_iG "Inferrer.function" = true)
    (k_iG : PySem.W.keepIn K (.ref f_iG) = true)
    (a_iC : PySem.W.findIn K (.ref cI) "composed" = some (some (.ref f_iC)))
    (n_iC : PySem.W.isFn K (.ref f_iC) = true)
    (l_iC : K.lookup f_iC = some ⟨oc_iC, od_iC, .func (PySem.W.fnOf "composed" "Inferrer.composed" (defArgs sIcomposed) (defBody sIcomposed) (defScope sIcomposed) .none kV_iC dc_iC pm_iC an_iC cd_iC ct_iC), sl_iC⟩)
    (c_iC : PySem.W.codeIn K cd_iC "Inferrer.composed" = true)
    (k_iC : PySem.W.keepIn K (.ref f_iC) = true)
    (a_sg : PySem.W.nsIn K mainGlobals "signatures_of" = some (some (.ref f_sg)))
    (l_sg : K.lookup f_sg = some ⟨oc_sg, od_sg, .func (PySem.W.fnOf "signatures_of" "signatures_of" (defArgs sSigs) (defBody sSigs) (defScope sSigs) .none kV_sg dc_sg pm_sg an_sg cd_sg ct_sg), sl_sg⟩)
    (c_sg : PySem.W.codeIn K cd_sg "signatures_of" = true)
    (k_sg : PySem.W.keepIn K (.ref f_sg) = true)
    (a_lk : PySem.W.nsIn K mainGlobals "looked_up" = some (some (.ref f_lk)))
    (l_lk : K.lookup f_lk = some ⟨oc_lk, od_lk, .func (PySem.W.fnOf "looked_up" "looked_up" (defArgs sLooked) (defBody sLooked) (defScope sLooked) .none kV_lk dc_lk pm_lk an_lk cd_lk ct_lk), sl_lk⟩)
    (c_lk : PySem.W.codeIn K cd_lk "looked_up" = true)
    (k_lk : PySem.W.keepIn K (.ref f_lk) = true)
    (a_inf : PySem.W.nsIn K mainGlobals "infer" = some (some (.ref f_inf)))
    (l_inf : K.lookup f_inf = some ⟨oc_inf, od_inf, .func (PySem.W.fnOf "infer" "infer" (defArgs sInfer) (defBody sInfer) (defScope sInfer) .none kV_inf dc_inf pm_inf an_inf cd_inf ct_inf), sl_inf⟩)
    (c_inf : PySem.W.codeIn K cd_inf "infer" = true)
    (k_inf : PySem.W.keepIn K (.ref f_inf) = true)
    (a_qS : PySem.W.nsIn K mainGlobals "_law_state" = some (some (.ref f_qS)))
    (l_qS : K.lookup f_qS = some ⟨oc_qS, od_qS, .func (PySem.W.fnOf "_law_state" "_law_state" (defArgs sLstate) (defBody sLstate) (defScope sLstate) .none kV_qS dc_qS pm_qS an_qS cd_qS ct_qS), sl_qS⟩)
    (c_qS : PySem.W.codeIn K cd_qS "_law_state" = true)
    (k_qS : PySem.W.keepIn K (.ref f_qS) = true)
    (a_qT : PySem.W.nsIn K mainGlobals "_law_take" = some (some (.ref f_qT)))
    (l_qT : K.lookup f_qT = some ⟨oc_qT, od_qT, .func (PySem.W.fnOf "_law_take" "_law_take" (defArgs sLtake) (defBody sLtake) (defScope sLtake) .none kV_qT dc_qT pm_qT an_qT cd_qT ct_qT), sl_qT⟩)
    (c_qT : PySem.W.codeIn K cd_qT "_law_take" = true)
    (k_qT : PySem.W.keepIn K (.ref f_qT) = true)
    (a_qC : PySem.W.nsIn K mainGlobals "_law_chain" = some (some (.ref f_qC)))
    (l_qC : K.lookup f_qC = some ⟨oc_qC, od_qC, .func (PySem.W.fnOf "_law_chain" "_law_chain" (defArgs sLchain) (defBody sLchain) (defScope sLchain) .none kV_qC dc_qC pm_qC an_qC cd_qC ct_qC), sl_qC⟩)
    (c_qC : PySem.W.codeIn K cd_qC "_law_chain" = true)
    (k_qC : PySem.W.keepIn K (.ref f_qC) = true)
    (a_qZ : PySem.W.nsIn K mainGlobals "_law_size" = some (some (.ref f_qZ)))
    (l_qZ : K.lookup f_qZ = some ⟨oc_qZ, od_qZ, .func (PySem.W.fnOf "_law_size" "_law_size" (defArgs sLsize) (defBody sLsize) (defScope sLsize) .none kV_qZ dc_qZ pm_qZ an_qZ cd_qZ ct_qZ), sl_qZ⟩)
    (c_qZ : PySem.W.codeIn K cd_qZ "_law_size" = true)
    (k_qZ : PySem.W.keepIn K (.ref f_qZ) = true)
    (a_qO : PySem.W.nsIn K mainGlobals "_law_told" = some (some (.ref f_qO)))
    (l_qO : K.lookup f_qO = some ⟨oc_qO, od_qO, .func (PySem.W.fnOf "_law_told" "_law_told" (defArgs sLtold) (defBody sLtold) (defScope sLtold) .none kV_qO dc_qO pm_qO an_qO cd_qO ct_qO), sl_qO⟩)
    (c_qO : PySem.W.codeIn K cd_qO "_law_told" = true)
    (k_qO : PySem.W.keepIn K (.ref f_qO) = true)
    (a_qD : PySem.W.nsIn K mainGlobals "_law_due" = some (some (.ref f_qD)))
    (l_qD : K.lookup f_qD = some ⟨oc_qD, od_qD, .func (PySem.W.fnOf "_law_due" "_law_due" (defArgs sLdue) (defBody sLdue) (defScope sLdue) .none kV_qD dc_qD pm_qD an_qD cd_qD ct_qD), sl_qD⟩)
    (c_qD : PySem.W.codeIn K cd_qD "_law_due" = true)
    (k_qD : PySem.W.keepIn K (.ref f_qD) = true)
    (a_lw : PySem.W.nsIn K mainGlobals "law" = some (some (.ref f_lw)))
    (l_lw : K.lookup f_lw = some ⟨oc_lw, od_lw, .func (PySem.W.fnOf "law" "law" (defArgs sLaw) (defBody sLaw) (defScope sLaw) .none kV_lw dc_lw pm_lw an_lw cd_lw ct_lw), sl_lw⟩)
    (c_lw : PySem.W.codeIn K cd_lw "law" = true)
    (k_lw : PySem.W.keepIn K (.ref f_lw) = true)
    (pgcR : PySem.W.plainGet K cR Str.empty = true)
    (hdcR : PySem.W.hasDictIn K cR = true)
    (pocR : PySem.W.plainOver K cR = true)
    (sacR : PySem.W.findIn K (.ref cR) "__setattr__" = some (some (.builtin "object.__setattr__")))
    (mkcR : PySem.W.makesIn K cR = true)
    (kccR : PySem.W.keepIn K (.ref cR) = true)
    (pgcK : PySem.W.plainGet K cK Str.empty = true)
    (hdcK : PySem.W.hasDictIn K cK = true)
    (pocK : PySem.W.plainOver K cK = true)
    (sacK : PySem.W.findIn K (.ref cK) "__setattr__" = some (some (.builtin "object.__setattr__")))
    (mkcK : PySem.W.makesIn K cK = true)
    (kccK : PySem.W.keepIn K (.ref cK) = true)
    (pgcI : PySem.W.plainGet K cI Str.empty = true)
    (hdcI : PySem.W.hasDictIn K cI = true)
    (pocI : PySem.W.plainOver K cI = true)
    (sacI : PySem.W.findIn K (.ref cI) "__setattr__" = some (some (.builtin "object.__setattr__")))
    (mkcI : PySem.W.makesIn K cI = true)
    (kccI : PySem.W.keepIn K (.ref cI) = true)
    (nocR_links : PySem.W.findIn K (.ref cR) "links" = some none)
    (nocR_names : PySem.W.findIn K (.ref cR) "names" = some none)
    (nocR_flows : PySem.W.findIn K (.ref cR) "flows" = some none)
    (nocK_rows : PySem.W.findIn K (.ref cK) "rows" = some none)
    (nocK_meanings : PySem.W.findIn K (.ref cK) "meanings" = some none)
    (nocI_signatures : PySem.W.findIn K (.ref cI) "signatures" = some none)
    (nocI_kinds : PySem.W.findIn K (.ref cI) "kinds" = some none)
    (nocI_rows : PySem.W.findIn K (.ref cI) "rows" = some none)
    (nocI_types : PySem.W.findIn K (.ref cI) "types" = some none)
    (nocI_own_rows : PySem.W.findIn K (.ref cI) "own_rows" = some none)
    (z_len : PySem.W.nsIn K mainGlobals "len" = some none)
    (z_int : PySem.W.nsIn K mainGlobals "int" = some none)
    (z_str : PySem.W.nsIn K mainGlobals "str" = some none)
    (z_list : PySem.W.nsIn K mainGlobals "list" = some none)
    (z_tuple : PySem.W.nsIn K mainGlobals "tuple" = some none)
    (z_sorted : PySem.W.nsIn K mainGlobals "sorted" = some none)
    (z_range : PySem.W.nsIn K mainGlobals "range" = some none)
    (z_enumerate : PySem.W.nsIn K mainGlobals "enumerate" = some none)
    (z_zip : PySem.W.nsIn K mainGlobals "zip" = some none)
    (z_abs : PySem.W.nsIn K mainGlobals "abs" = some none)
    (z_isinstance : PySem.W.nsIn K mainGlobals "isinstance" = some none)
    (z_super : PySem.W.nsIn K mainGlobals "super" = some none)
    (m_aI : PySem.W.nsIn K mainGlobals "INT" = some (some (.ref aI)))
    (x_aI : K.lookup aI = some ⟨.type "tuple", od_aI, .seq #[.str "int" t_aI] nn_aI, sl_aI⟩)
    (m_aB : PySem.W.nsIn K mainGlobals "BOOL" = some (some (.ref aB)))
    (x_aB : K.lookup aB = some ⟨.type "tuple", od_aB, .seq #[.str "bool" t_aB] nn_aB, sl_aB⟩)
    (m_aU : PySem.W.nsIn K mainGlobals "UNIT_kinds" = some (some (.ref aU)))
    (x_aU : K.lookup aU = some ⟨.type "tuple", od_aU, .seq #[.str "unit" t_aU] nn_aU, sl_aU⟩)
    (m_mz : PySem.W.nsIn K mainGlobals "MOST_SIZE" = some (some (.int 1000 tz)))
    (m_aC : PySem.W.nsIn K mainGlobals "CONSTANTS" = some (some (.ref aC)))
    (x_aC : K.lookup aC = some ⟨.type "dict", none, .dict esC nC, #[]⟩)
    (y_aC : PySem.W.KeysLit w.params esC.toList)
    (w_aC : (aC == sysModules) = false)
    (v_num : PySem.W.nsIn K aC "num" = some (some (.ref aI)))
    (v_name : PySem.W.nsIn K aC "name" = some none)
    (v_fun : PySem.W.nsIn K aC "fun" = some none)
    (v_let : PySem.W.nsIn K aC "let" = some none)
    (v_pair : PySem.W.nsIn K aC "pair" = some none)
    (v_fst : PySem.W.nsIn K aC "fst" = some none)
    (v_not : PySem.W.nsIn K aC "not" = some none)
    (v_call : PySem.W.nsIn K aC "call" = some none)
    (xU : K.lookup cU = some (excClassObj nmU qU cU nsU bsU [.ref cF, .type "ValueError", .type "Exception", .type "BaseException", .type "object"] true snU subU abU colU ddU k0U k1U k2U k3U k5U "ValueError.__new__"))
    (saU : PySem.W.findIn K (.ref cU) "__setattr__" = some (some (.builtin "object.__setattr__")))
    (exU : PySem.W.subIn K (.ref cU) (.type "BaseException") = some true)
    (tyU : PySem.W.typeIn K (.ref cU) = some (.type "type"))
    (kU : PySem.W.keepIn K (.ref cU) = true)
    (iU : PySem.W.findIn K (.ref cU) "__init__" = some (some (.ref f_u)))
    (tU : PySem.W.typeIn K (.ref f_u) = some (.type "function"))
    (l_u : K.lookup f_u = some ⟨oc_u, od_u, .func (PySem.W.fnX "__init__" "Unbounded.__init__" (defArgs sUnb) (defBody sUnb) (defScope sUnb) [("__class__", ccU)] .none kV_u dc_u pm_u an_u (.ref cdU) ct_u), sl_u⟩)
    (c_u : PySem.W.codeIn K (.ref cdU) "Unbounded.__init__" = true)
    (xcU : K.lookup cdU = some ⟨ccl, cdd, .fields cvs, ccs⟩)
    (vcU : cvs[2]? = some (.str cfile ctf))
    (fcU : ((P.main.file : Str) == cfile) = true)
    (xccU : K.lookup ccU = some ⟨cl1, cl2, .cell (some (.ref cU)), cl3⟩)
    (opq : PySem.W.nsIn K cStatics "thirdparty.any" = some none)
    (xF : K.lookup cF = some ⟨ocF, odF, .cls cdF, slF⟩)
    (nF : PySem.W.nsIn K cdF.ns "__init__" = some none)
    (vU : PySem.W.subIn K (.ref cU) (.type "ValueError") = some true)
    (mU : PySem.W.mroIn K cU (.ref cU) = some true)
    (dU : PySem.W.clsIn K cU = some cdcU)
    (nU : PySem.W.findIn K (.ref cU) "name" = some none)
    (tp : (P.main.scope.names.lookup ("super" : Str)).isSome = false)
    (gaU : PySem.W.findIn K (.ref cU) "__getattribute__" = some (some (.builtin "BaseException.__getattribute__")))
    (ggU : PySem.W.findIn K (.ref cU) "__getattr__" = some none)
    (hdU : PySem.W.hasDictIn K cU = true)
    (haU : PySem.W.findIn K (.ref cU) "__class__" = some (some (.builtin "object.__class__")))
    (hnU : PySem.W.specialIn K (.builtin "object.__class__") "__get__" = some (some (.builtin "getset_descriptor.__get__")))
    (htU : PySem.W.takesIn K (.builtin "object.__class__") = some true)
    (hmU : PySem.W.mroIn K cU (.type "object") = some true)
    (bF : PySem.W.subIn K (.ref cF) (.type "BaseException") = some true)
    (iF : PySem.W.isClsIn K cF = true)
    (tF : PySem.W.typeIn K (.ref cF) = some (.type "type"))
    (sUF : PySem.W.subIn K (.ref cU) (.ref cF) = some true)
    (iM : PySem.W.isClsIn K cM = true)
    (tM : PySem.W.typeIn K (.ref cM) = some (.type "type"))
    (sUM : PySem.W.subIn K (.ref cU) (.ref cM) = some false)
    (sUU : PySem.W.subIn K (.ref cU) (.ref cU) = some true) :
    ∃ fd : FuncData, (∀ (s : Shared) (v : Value), BindsTo s fd ⟨[v], []⟩ [("_law_script", v)]) ∧ ∀ base : Heap, K.In base → base.Ns mainGlobals mg → FnOk P w K mg base CX0 169 fa fd ["_law_script"] (spLaw K) := by
  have e := hfa.symm.trans (PySem.W.mg_of X G a_lw)
  cases e
  have F_rI := fun_mk (st := sRinit) l_rI c_rI k_rI
  have b_rI := F_rI.binds (ps := ["self"]) fun _ _ _ _ _ _ us hl => match us, hl with | [_], _ => rfl
  have F_rF := fun_mk (st := sRfresh) l_rF c_rF k_rF
  have b_rF := F_rF.binds (ps := ["self"]) fun _ _ _ _ _ _ us hl => match us, hl with | [_], _ => rfl
  have F_rT := fun_mk (st := sRroot) l_rT c_rT k_rT
  have b_rT := F_rT.binds (ps := ["self", "row"]) fun _ _ _ _ _ _ us hl => match us, hl with | [_, _], _ => rfl
  have F_rW := fun_mk (st := sRflow) l_rW c_rW k_rW
  have b_rW := F_rW.binds (ps := ["self", "source", "target", "without"]) fun _ _ _ _ _ _ us hl => match us, hl with | [_, _, _, _], _ => rfl
  have F_rS := fun_mk (st := sRsame) l_rS c_rS k_rS
  have b_rS := F_rS.binds (ps := ["self", "one", "other"]) fun _ _ _ _ _ _ us hl => match us, hl with | [_, _, _], _ => rfl
  have F_rL := fun_mk (st := sRleast) l_rL c_rL k_rL
  have b_rL := F_rL.binds (ps := ["self"]) fun _ _ _ _ _ _ us hl => match us, hl with | [_], _ => rfl
  have F_kI := fun_mk (st := sKinit) l_kI c_kI k_kI
  have b_kI := F_kI.binds (ps := ["self"]) fun _ _ _ _ _ _ us hl => match us, hl with | [_], _ => rfl
  have F_kF := fun_mk (st := sKfresh) l_kF c_kF k_kF
  have b_kF := F_kF.binds (ps := ["self"]) fun _ _ _ _ _ _ us hl => match us, hl with | [_], _ => rfl
  have F_kS := fun_mk (st := sKseen) l_kS c_kS k_kS
  have b_kS := F_kS.binds (ps := ["self", "known"]) fun _ _ _ _ _ _ us hl => match us, hl with | [_, _], _ => rfl
  have F_kN := fun_mk (st := sKinner) l_kN c_kN k_kN
  have b_kN := F_kN.binds (ps := ["self", "known"]) fun _ _ _ _ _ _ us hl => match us, hl with | [_, _], _ => rfl
  have F_kC := fun_mk (st := sKcontains) l_kC c_kC k_kC
  have b_kC := F_kC.binds (ps := ["self", "known", "variable"]) fun _ _ _ _ _ _ us hl => match us, hl with | [_, _, _], _ => rfl
  have F_kU := fun_mk (st := sKunify) l_kU c_kU k_kU
  have b_kU := F_kU.binds (ps := ["self", "one", "other"]) fun _ _ _ _ _ _ us hl => match us, hl with | [_, _, _], _ => rfl
  have F_kB := fun_mk (st := sKbind) l_kB c_kB k_kB
  have b_kB := F_kB.binds (ps := ["self", "one", "other"]) fun _ _ _ _ _ _ us hl => match us, hl with | [_, _, _], _ => rfl
  have F_kZ := fun_mk (st := sKsize) l_kZ c_kZ k_kZ
  have b_kZ := F_kZ.binds (ps := ["self", "known", "room"]) fun _ _ _ _ _ _ us hl => match us, hl with | [_, _, _], _ => rfl
  have F_kT := fun_mk (st := sKsettled) l_kT c_kT k_kT
  have b_kT := F_kT.binds (ps := ["self", "known", "rows"]) fun _ _ _ _ _ _ us hl => match us, hl with | [_, _, _], _ => rfl
  have F_iI := fun_mk (st := sIinit) l_iI c_iI k_iI
  have b_iI := F_iI.binds (ps := ["self", "operations"]) fun _ _ _ _ _ _ us hl => match us, hl with | [_, _], _ => rfl
  have F_iV := fun_mk (st := sIvisit) l_iV c_iV k_iV
  have b_iV := F_iV.binds (ps := ["self", "expression", "env"]) fun _ _ _ _ _ _ us hl => match us, hl with | [_, _, _], _ => rfl
  have F_iP := fun_mk (st := sIpart) l_iP c_iP k_iP
  have b_iP := F_iP.binds (ps := ["self", "expression", "env", "number"]) fun _ _ _ _ _ _ us hl => match us, hl with | [_, _, _, _], _ => rfl
  have F_iF := fun_mk (st := sIfits) l_iF c_iF k_iF
  have b_iF := F_iF.binds (ps := ["self", "number", "known"]) fun _ _ _ _ _ _ us hl => match us, hl with | [_, _, _], _ => rfl
  have F_iJ := fun_mk (st := sIjudged) l_iJ c_iJ k_iJ
  have b_iJ := F_iJ.binds (ps := ["self", "expression", "env", "number"]) fun _ _ _ _ _ _ us hl => match us, hl with | [_, _, _, _], _ => rfl
  have F_iG := fun_mk (st := sIfunction) l_iG c_iG k_iG
  have b_iG := F_iG.binds (ps := ["self", "expression", "env"]) fun _ _ _ _ _ _ us hl => match us, hl with | [_, _, _], _ => rfl
  have F_iC := fun_mk (st := sIcomposed) l_iC c_iC k_iC
  have b_iC := F_iC.binds (ps := ["self", "head", "inner", "number"]) fun _ _ _ _ _ _ us hl => match us, hl with | [_, _, _, _], _ => rfl
  have F_sg := fun_mk (st := sSigs) l_sg c_sg k_sg
  have b_sg := F_sg.binds (ps := ["operations"]) fun _ _ _ _ _ _ us hl => match us, hl with | [_], _ => rfl
  have F_lk := fun_mk (st := sLooked) l_lk c_lk k_lk
  have b_lk := F_lk.binds (ps := ["env", "name"]) fun _ _ _ _ _ _ us hl => match us, hl with | [_, _], _ => rfl
  have F_inf := fun_mk (st := sInfer) l_inf c_inf k_inf
  have b_inf := F_inf.binds (ps := ["program"]) fun _ _ _ _ _ _ us hl => match us, hl with | [_], _ => rfl
  have F_qS := fun_mk (st := sLstate) l_qS c_qS k_qS
  have b_qS := F_qS.binds (ps := ["_law_script"]) fun _ _ _ _ _ _ us hl => match us, hl with | [_], _ => rfl
  have F_qT := fun_mk (st := sLtake) l_qT c_qT k_qT
  have b_qT := F_qT.binds (ps := ["_law_state_here", "_law_most"]) fun _ _ _ _ _ _ us hl => match us, hl with | [_, _], _ => rfl
  have F_qC := fun_mk (st := sLchain) l_qC c_qC k_qC
  have b_qC := F_qC.binds (ps := ["_law_value", "_law_depth", "_law_last"]) fun _ _ _ _ _ _ us hl => match us, hl with | [_, _, _], _ => rfl
  have F_qZ := fun_mk (st := sLsize) l_qZ c_qZ k_qZ
  have b_qZ := F_qZ.binds (ps := ["_law_known"]) fun _ _ _ _ _ _ us hl => match us, hl with | [_], _ => rfl
  have F_qO := fun_mk (st := sLtold) l_qO c_qO k_qO
  have b_qO := F_qO.binds (ps := ["_law_expression"]) fun _ _ _ _ _ _ us hl => match us, hl with | [_], _ => rfl
  have F_qD := fun_mk (st := sLdue) l_qD c_qD k_qD
  have b_qD := F_qD.binds (ps := ["_law_known", "_law_depth"]) fun _ _ _ _ _ _ us hl => match us, hl with | [_, _], _ => rfl
  have F_lw := fun_mk (st := sLaw) l_lw c_lw k_lw
  let A : Adr := { cR := cR, cK := cK, cI := cI, cU := cU, cF := cF, cM := cM, uI := f_u, aI := aI, aB := aB, aU := aU, aC := aC, rI := ⟨f_rI, (PySem.W.fnOf "__init__" "Rows.__init__" (defArgs sRinit) (defBody sRinit) (defScope sRinit) .none kV_rI dc_rI pm_rI an_rI cd_rI ct_rI)⟩, rF := ⟨f_rF, (PySem.W.fnOf "fresh" "Rows.fresh" (defArgs sRfresh) (defBody sRfresh) (defScope sRfresh) .none kV_rF dc_rF pm_rF an_rF cd_rF ct_rF)⟩, rT := ⟨f_rT, (PySem.W.fnOf "root" "Rows.root" (defArgs sRroot) (defBody sRroot) (defScope sRroot) .none kV_rT dc_rT pm_rT an_rT cd_rT ct_rT)⟩, rW := ⟨f_rW, (PySem.W.fnOf "flow" "Rows.flow" (defArgs sRflow) (defBody sRflow) (defScope sRflow) .none kV_rW dc_rW pm_rW an_rW cd_rW ct_rW)⟩, rS := ⟨f_rS, (PySem.W.fnOf "same" "Rows.same" (defArgs sRsame) (defBody sRsame) (defScope sRsame) .none kV_rS dc_rS pm_rS an_rS cd_rS ct_rS)⟩, rL := ⟨f_rL, (PySem.W.fnOf "least" "Rows.least" (defArgs sRleast) (defBody sRleast) (defScope sRleast) .none kV_rL dc_rL pm_rL an_rL cd_rL ct_rL)⟩, kI := ⟨f_kI, (PySem.W.fnOf "__init__" "Kinds.__init__" (defArgs sKinit) (defBody sKinit) (defScope sKinit) .none kV_kI dc_kI pm_kI an_kI cd_kI ct_kI)⟩, kF := ⟨f_kF, (PySem.W.fnOf "fresh" "Kinds.fresh" (defArgs sKfresh) (defBody sKfresh) (defScope sKfresh) .none kV_kF dc_kF pm_kF an_kF cd_kF ct_kF)⟩, kS := ⟨f_kS, (PySem.W.fnOf "seen" "Kinds.seen" (defArgs sKseen) (defBody sKseen) (defScope sKseen) .none kV_kS dc_kS pm_kS an_kS cd_kS ct_kS)⟩, kN := ⟨f_kN, (PySem.W.fnOf "inner" "Kinds.inner" (defArgs sKinner) (defBody sKinner) (defScope sKinner) .none kV_kN dc_kN pm_kN an_kN cd_kN ct_kN)⟩, kC := ⟨f_kC, (PySem.W.fnOf "contains" "Kinds.contains" (defArgs sKcontains) (defBody sKcontains) (defScope sKcontains) .none kV_kC dc_kC pm_kC an_kC cd_kC ct_kC)⟩, kU := ⟨f_kU, (PySem.W.fnOf "unify" "Kinds.unify" (defArgs sKunify) (defBody sKunify) (defScope sKunify) .none kV_kU dc_kU pm_kU an_kU cd_kU ct_kU)⟩, kB := ⟨f_kB, (PySem.W.fnOf "bind" "Kinds.bind" (defArgs sKbind) (defBody sKbind) (defScope sKbind) .none kV_kB dc_kB pm_kB an_kB cd_kB ct_kB)⟩, kZ := ⟨f_kZ, (PySem.W.fnOf "size_within" "Kinds.size_within" (defArgs sKsize) (defBody sKsize) (defScope sKsize) .none kV_kZ dc_kZ pm_kZ an_kZ cd_kZ ct_kZ)⟩, kT := ⟨f_kT, (PySem.W.fnOf "settled" "Kinds.settled" (defArgs sKsettled) (defBody sKsettled) (defScope sKsettled) .none kV_kT dc_kT pm_kT an_kT cd_kT ct_kT)⟩, iI := ⟨f_iI, (PySem.W.fnOf "__init__" "Inferrer.__init__" (defArgs sIinit) (defBody sIinit) (defScope sIinit) .none kV_iI dc_iI pm_iI an_iI cd_iI ct_iI)⟩, iV := ⟨f_iV, (PySem.W.fnOf "visit" "Inferrer.visit" (defArgs sIvisit) (defBody sIvisit) (defScope sIvisit) .none kV_iV dc_iV pm_iV an_iV cd_iV ct_iV)⟩, iP := ⟨f_iP, (PySem.W.fnOf "part" "Inferrer.part" (defArgs sIpart) (defBody sIpart) (defScope sIpart) .none kV_iP dc_iP pm_iP an_iP cd_iP ct_iP)⟩, iF := ⟨f_iF, (PySem.W.fnOf "fits" "Inferrer.fits" (defArgs sIfits) (defBody sIfits) (defScope sIfits) .none kV_iF dc_iF pm_iF an_iF cd_iF ct_iF)⟩, iJ := ⟨f_iJ, (PySem.W.fnOf "judged" "Inferrer.judged" (defArgs sIjudged) (defBody sIjudged) (defScope sIjudged) .none kV_iJ dc_iJ pm_iJ an_iJ cd_iJ ct_iJ)⟩, iG := ⟨f_iG, (PySem.W.fnOf "function" "Inferrer.function" (defArgs sIfunction) (defBody sIfunction) (defScope sIfunction) .none kV_iG dc_iG pm_iG an_iG cd_iG ct_iG)⟩, iC := ⟨f_iC, (PySem.W.fnOf "composed" "Inferrer.composed" (defArgs sIcomposed) (defBody sIcomposed) (defScope sIcomposed) .none kV_iC dc_iC pm_iC an_iC cd_iC ct_iC)⟩, sg := ⟨f_sg, (PySem.W.fnOf "signatures_of" "signatures_of" (defArgs sSigs) (defBody sSigs) (defScope sSigs) .none kV_sg dc_sg pm_sg an_sg cd_sg ct_sg)⟩, lk := ⟨f_lk, (PySem.W.fnOf "looked_up" "looked_up" (defArgs sLooked) (defBody sLooked) (defScope sLooked) .none kV_lk dc_lk pm_lk an_lk cd_lk ct_lk)⟩, inf := ⟨f_inf, (PySem.W.fnOf "infer" "infer" (defArgs sInfer) (defBody sInfer) (defScope sInfer) .none kV_inf dc_inf pm_inf an_inf cd_inf ct_inf)⟩, qS := ⟨f_qS, (PySem.W.fnOf "_law_state" "_law_state" (defArgs sLstate) (defBody sLstate) (defScope sLstate) .none kV_qS dc_qS pm_qS an_qS cd_qS ct_qS)⟩, qT := ⟨f_qT, (PySem.W.fnOf "_law_take" "_law_take" (defArgs sLtake) (defBody sLtake) (defScope sLtake) .none kV_qT dc_qT pm_qT an_qT cd_qT ct_qT)⟩, qC := ⟨f_qC, (PySem.W.fnOf "_law_chain" "_law_chain" (defArgs sLchain) (defBody sLchain) (defScope sLchain) .none kV_qC dc_qC pm_qC an_qC cd_qC ct_qC)⟩, qZ := ⟨f_qZ, (PySem.W.fnOf "_law_size" "_law_size" (defArgs sLsize) (defBody sLsize) (defScope sLsize) .none kV_qZ dc_qZ pm_qZ an_qZ cd_qZ ct_qZ)⟩, qO := ⟨f_qO, (PySem.W.fnOf "_law_told" "_law_told" (defArgs sLtold) (defBody sLtold) (defScope sLtold) .none kV_qO dc_qO pm_qO an_qO cd_qO ct_qO)⟩, qD := ⟨f_qD, (PySem.W.fnOf "_law_due" "_law_due" (defArgs sLdue) (defBody sLdue) (defScope sLdue) .none kV_qD dc_qD pm_qD an_qD cd_qD ct_qD)⟩ }
  have tR : TxR K mg A := { cl := ⟨pgcR, hdcR, pocR, sacR⟩, mm := ⟨mkcR, a_rI, n_rI, kccR⟩, g := PySem.W.mg_of X G gcR, nl := nocR_links, nn := nocR_names, nf := nocR_flows, I := ⟨F_rI, b_rI⟩, F := { F := F_rF, b := b_rF, m := ⟨a_rF, n_rF, k_rF⟩ }, T := { F := F_rT, b := b_rT, m := ⟨a_rT, n_rT, k_rT⟩ }, W := { F := F_rW, b := b_rW, m := ⟨a_rW, n_rW, k_rW⟩ }, S := { F := F_rS, b := b_rS, m := ⟨a_rS, n_rS, k_rS⟩ }, L := { F := F_rL, b := b_rL, m := ⟨a_rL, n_rL, k_rL⟩ } }
  have tK : TxK K mg A := { cl := ⟨pgcK, hdcK, pocK, sacK⟩, mm := ⟨mkcK, a_kI, n_kI, kccK⟩, g := PySem.W.mg_of X G gcK, nr := nocK_rows, nm := nocK_meanings, I := ⟨F_kI, b_kI⟩, F := { F := F_kF, b := b_kF, m := ⟨a_kF, n_kF, k_kF⟩ }, S := { F := F_kS, b := b_kS, m := ⟨a_kS, n_kS, k_kS⟩ }, N := { F := F_kN, b := b_kN, m := ⟨a_kN, n_kN, k_kN⟩ }, C := { F := F_kC, b := b_kC, m := ⟨a_kC, n_kC, k_kC⟩ }, U := { F := F_kU, b := b_kU, m := ⟨a_kU, n_kU, k_kU⟩ }, B := { F := F_kB, b := b_kB, m := ⟨a_kB, n_kB, k_kB⟩ }, Z := { F := F_kZ, b := b_kZ, m := ⟨a_kZ, n_kZ, k_kZ⟩ }, T := { F := F_kT, b := b_kT, m := ⟨a_kT, n_kT, k_kT⟩ }, u := ⟨PySem.W.mg_of X G m_aU, kt_of x_aU⟩ }
  have tI : TxI K mg A := { cl := ⟨pgcI, hdcI, pocI, sacI⟩, mm := ⟨mkcI, a_iI, n_iI, kccI⟩, g := PySem.W.mg_of X G gcI, ns := nocI_signatures, nk := nocI_kinds, nr := nocI_rows, nt := nocI_types, no := nocI_own_rows, I := ⟨F_iI, b_iI⟩, V := { F := F_iV, b := b_iV, m := ⟨a_iV, n_iV, k_iV⟩ }, P := { F := F_iP, b := b_iP, m := ⟨a_iP, n_iP, k_iP⟩ }, F := { F := F_iF, b := b_iF, m := ⟨a_iF, n_iF, k_iF⟩ }, J := { F := F_iJ, b := b_iJ, m := ⟨a_iJ, n_iJ, k_iJ⟩ }, G := { F := F_iG, b := b_iG, m := ⟨a_iG, n_iG, k_iG⟩ }, C := { F := F_iC, b := b_iC, m := ⟨a_iC, n_iC, k_iC⟩ }, s := { F := F_sg, b := b_sg, g := PySem.W.mg_of X G a_sg }, l := { F := F_lk, b := b_lk, g := PySem.W.mg_of X G a_lk }, q := { F := F_inf, b := b_inf, g := PySem.W.mg_of X G a_inf }, i := ⟨PySem.W.mg_of X G m_aI, kt_of x_aI⟩, b := ⟨PySem.W.mg_of X G m_aB, kt_of x_aB⟩, z := ⟨_, PySem.W.mg_of X G m_mz⟩ }
  have tL : TxL K mg A := { S := { F := F_qS, b := b_qS, g := PySem.W.mg_of X G a_qS }, T := { F := F_qT, b := b_qT, g := PySem.W.mg_of X G a_qT }, C := { F := F_qC, b := b_qC, g := PySem.W.mg_of X G a_qC }, Z := { F := F_qZ, b := b_qZ, g := PySem.W.mg_of X G a_qZ }, O := { F := F_qO, b := b_qO, g := PySem.W.mg_of X G a_qO }, D := { F := F_qD, b := b_qD, g := PySem.W.mg_of X G a_qD } }
  have tB : TxB mg := { len := PySem.W.mg_none_of X G z_len, int := PySem.W.mg_none_of X G z_int, str := PySem.W.mg_none_of X G z_str, lst := PySem.W.mg_none_of X G z_list, tup := PySem.W.mg_none_of X G z_tuple, srt := PySem.W.mg_none_of X G z_sorted, rng := PySem.W.mg_none_of X G z_range, enu := PySem.W.mg_none_of X G z_enumerate, zip := PySem.W.mg_none_of X G z_zip, abs := PySem.W.mg_none_of X G z_abs, isi := PySem.W.mg_none_of X G z_isinstance }
  have tUU : SupC P K mg cU f_u := { T := { cls := ⟨nmU, qU, nsU, bsU, _, snU, subU, abU, colU, ddU, k0U, k1U, k2U, k3U, k5U, xU, (by show PySem.HandSPX.refsVE [.type "ValueError", .type "Exception", .type "BaseException", .type "object"] = true; decide +kernel)⟩, sa := saU, exC := exU, tyC := tyU, kC := kU }, iC := iU, tI := tU, ex := ⟨oc_u, od_u, kV_u, dc_u, pm_u, an_u, cdU, ct_u, sl_u, ccU, l_u, c_u, ⟨ccl, cdd, cvs, ccs, cfile, ctf, xcU, vcU, fcU⟩, ⟨cl1, cl2, cl3, xccU⟩⟩, opq := opq, sup := sup_of xU xF nF, hB := vU, hS := mU, hD := ⟨cdcU, dU⟩, gS := PySem.W.mg_none_of X G z_super, nN := nU, top := tp }
  have T : Txt P w K mg A := { tR := tR, tK := tK, tI := tI, tL := tL, tB := tB, tU := tUU, gU := PySem.W.mg_of X G gcU, con := ⟨PySem.W.mg_of X G m_aC, esC, nC, ⟨x_aC, y_aC, w_aC⟩, v_num, fun x hx => ?_⟩ }
  · have TE : TxE K mg A := { gF := PySem.W.mg_of X G gcF, gM := PySem.W.mg_of X G gcM, te := exm_two bF iF tF sUF, kU := kit_self, kM := kit_not sUU iM tM sUM, eC := ⟨gaU, ggU, exU, hdU, haU, hnU, htU, hmU⟩, xC := ⟨gaU, ggU, exU, hdU⟩ }
    exact ⟨(PySem.W.fnOf "law" "law" (defArgs sLaw) (defBody sLaw) (defScope sLaw) .none kV_lw dc_lw pm_lw an_lw cd_lw ct_lw), fun s v => .of_eq rfl, fun base _ _ => ok_law T TE F_lw⟩
  · simp only [List.mem_cons, List.not_mem_nil, or_false] at hx
    rcases hx with rfl | rfl | rfl | rfl | rfl | rfl | rfl
    · exact v_name
    · exact v_fun
    · exact v_let
    · exact v_pair
    · exact v_fst
    · exact v_not
    · exact v_call
theorem walk {l : PySem.W.OpenLaw} {q : Program} {loose : List Str} {XP : (Str → Option Value) → Heap → Prop} {YP : World → Heap → Prop} {d : DefRec} {K : Params → PySem.W.Frag} (hn : l.most = some 63) (hdf : d.params.defaults = [])
    (hY : ∀ (w : World) (h : Heap), YP w h → (K w.params).In h)
    (F : ∀ (w : World) (mg : Str → Option Value) (fa : Addr) (h : Heap), (K w.params).In h → h.Ns mainGlobals mg → mg d.name = some (.ref fa) →
      ∃ fd : FuncData, (∀ (s : Shared) (u : Value), BindsTo s fd ⟨[u], []⟩ [("_law_script", u)]) ∧ ∀ base : Heap, (K w.params).In base → base.Ns mainGlobals mg → FnOk l.prog w (K w.params) mg base CX0 169 fa fd ["_law_script"] (spLaw (K w.params))) :
    PySem.W.WalkO q loose XP YP l.row.toRowW d [] (fun f vs => PySem.call f vs) :=
  L2.walk_of (n := 63) (k := 169) (x := "_law_script") (CX := fun _ => CX0) (sp := fun w => spLaw (K w.params)) hn (by decide) hdf ⟨rfl, by decide, by decide⟩ hY F (fun _ _ a ns hl _ hS => ⟨a, ns, rfl, hS, hl, fun _ => rfl⟩) fun _ _ _ _ _ z => z
end K9
open PySem PySem.W PyProof.Rows
set_option maxRecDepth 100000 in
set_option maxHeartbeats 0 in
theorem PySem.Challenge.cw_askedfor_k09_large_types_holds : PySem.Challenge.rw_askedfor_k09_large_types.Holds := by
  w_on; o_law; k_head; (case hw => w_witness2)
  k_fill
  refine K9.walk (l := PySem.Challenge.rw_askedfor_k09_large_types) rfl rfl (fun w h Y => PySem.W.kIn_of Y) ?F
  case F =>
    intro w mg fa h KX G hmg
    refine' K9.all_mk KX G hmg ?gcR ?gcK ?gcI ?gcU ?gcF ?gcM ?a_rI ?n_rI ?l_rI ?c_rI ?k_rI ?a_rF ?n_rF ?l_rF ?c_rF ?k_rF ?a_rT ?n_rT ?l_rT ?c_rT ?k_rT ?a_rW ?n_rW ?l_rW ?c_rW ?k_rW ?a_rS ?n_rS ?l_rS ?c_rS ?k_rS ?a_rL ?n_rL ?l_rL ?c_rL ?k_rL ?a_kI ?n_kI ?l_kI ?c_kI ?k_kI ?a_kF ?n_kF ?l_kF ?c_kF ?k_kF ?a_kS ?n_kS ?l_kS ?c_kS ?k_kS ?a_kN ?n_kN ?l_kN ?c_kN ?k_kN ?a_kC ?n_kC ?l_kC ?c_kC ?k_kC ?a_kU ?n_kU ?l_kU ?c_kU ?k_kU ?a_kB ?n_kB ?l_kB ?c_kB ?k_kB ?a_kZ ?n_kZ ?l_kZ ?c_kZ ?k_kZ ?a_kT ?n_kT ?l_kT ?c_kT ?k_kT ?a_iI ?n_iI ?l_iI ?c_iI ?k_iI ?a_iV ?n_iV ?l_iV ?c_iV ?k_iV ?a_iP ?n_iP ?l_iP ?c_iP ?k_iP ?a_iF ?n_iF ?l_iF ?c_iF ?k_iF ?a_iJ ?n_iJ ?l_iJ ?c_iJ ?k_iJ ?a_iG ?n_iG ?l_iG ?c_iG ?k_iG ?a_iC ?n_iC ?l_iC ?c_iC ?k_iC ?a_sg ?l_sg ?c_sg ?k_sg ?a_lk ?l_lk ?c_lk ?k_lk ?a_inf ?l_inf ?c_inf ?k_inf ?a_qS ?l_qS ?c_qS ?k_qS ?a_qT ?l_qT ?c_qT ?k_qT ?a_qC ?l_qC ?c_qC ?k_qC ?a_qZ ?l_qZ ?c_qZ ?k_qZ ?a_qO ?l_qO ?c_qO ?k_qO ?a_qD ?l_qD ?c_qD ?k_qD ?a_lw ?l_lw ?c_lw ?k_lw ?pgcR ?hdcR ?pocR ?sacR ?mkcR ?kccR ?pgcK ?hdcK ?pocK ?sacK ?mkcK ?kccK ?pgcI ?hdcI ?pocI ?sacI ?mkcI ?kccI ?nocR_links ?nocR_names ?nocR_flows ?nocK_rows ?nocK_meanings ?nocI_signatures ?nocI_kinds ?nocI_rows ?nocI_types ?nocI_own_rows ?z_len ?z_int ?z_str ?z_list ?z_tuple ?z_sorted ?z_range ?z_enumerate ?z_zip ?z_abs ?z_isinstance ?z_super ?m_aI ?x_aI ?m_aB ?x_aB ?m_aU ?x_aU ?m_mz ?m_aC ?x_aC ?y_aC ?w_aC ?v_num ?v_name ?v_fun ?v_let ?v_pair ?v_fst ?v_not ?v_call ?xU ?saU ?exU ?tyU ?kU ?iU ?tU ?l_u ?c_u ?xcU ?vcU ?fcU ?xccU ?opq ?xF ?nF ?vU ?mU ?dU ?nU ?tp ?gaU ?ggU ?hdU ?haU ?hnU ?htU ?hmU ?bF ?iF ?tF ?sUF ?iM ?tM ?sUM ?sUU
    (case gcR => k_is)
    (case gcK => k_is)
    (case gcI => k_is)
    (case gcU => k_is)
    (case gcF => k_is)
    (case gcM => k_is)
    (case a_rI => k_is)
    (case n_rI => k_is)
    (case l_rI => k_is)
    (case c_rI => k_is)
    (case k_rI => k_is)
    (case a_rF => k_is)
    (case n_rF => k_is)
    (case l_rF => k_is)
    (case c_rF => k_is)
    (case k_rF => k_is)
    (case a_rT => k_is)
    (case n_rT => k_is)
    (case l_rT => k_is)
    (case c_rT => k_is)
    (case k_rT => k_is)
    (case a_rW => k_is)
    (case n_rW => k_is)
    (case l_rW => k_is)
    (case c_rW => k_is)
    (case k_rW => k_is)
    (case a_rS => k_is)
    (case n_rS => k_is)
    (case l_rS => k_is)
    (case c_rS => k_is)
    (case k_rS => k_is)
    (case a_rL => k_is)
    (case n_rL => k_is)
    (case l_rL => k_is)
    (case c_rL => k_is)
    (case k_rL => k_is)
    (case a_kI => k_is)
    (case n_kI => k_is)
    (case l_kI => k_is)
    (case c_kI => k_is)
    (case k_kI => k_is)
    (case a_kF => k_is)
    (case n_kF => k_is)
    (case l_kF => k_is)
    (case c_kF => k_is)
    (case k_kF => k_is)
    (case a_kS => k_is)
    (case n_kS => k_is)
    (case l_kS => k_is)
    (case c_kS => k_is)
    (case k_kS => k_is)
    (case a_kN => k_is)
    (case n_kN => k_is)
    (case l_kN => k_is)
    (case c_kN => k_is)
    (case k_kN => k_is)
    (case a_kC => k_is)
    (case n_kC => k_is)
    (case l_kC => k_is)
    (case c_kC => k_is)
    (case k_kC => k_is)
    (case a_kU => k_is)
    (case n_kU => k_is)
    (case l_kU => k_is)
    (case c_kU => k_is)
    (case k_kU => k_is)
    (case a_kB => k_is)
    (case n_kB => k_is)
    (case l_kB => k_is)
    (case c_kB => k_is)
    (case k_kB => k_is)
    (case a_kZ => k_is)
    (case n_kZ => k_is)
    (case l_kZ => k_is)
    (case c_kZ => k_is)
    (case k_kZ => k_is)
    (case a_kT => k_is)
    (case n_kT => k_is)
    (case l_kT => k_is)
    (case c_kT => k_is)
    (case k_kT => k_is)
    (case a_iI => k_is)
    (case n_iI => k_is)
    (case l_iI => k_is)
    (case c_iI => k_is)
    (case k_iI => k_is)
    (case a_iV => k_is)
    (case n_iV => k_is)
    (case l_iV => k_is)
    (case c_iV => k_is)
    (case k_iV => k_is)
    (case a_iP => k_is)
    (case n_iP => k_is)
    (case l_iP => k_is)
    (case c_iP => k_is)
    (case k_iP => k_is)
    (case a_iF => k_is)
    (case n_iF => k_is)
    (case l_iF => k_is)
    (case c_iF => k_is)
    (case k_iF => k_is)
    (case a_iJ => k_is)
    (case n_iJ => k_is)
    (case l_iJ => k_is)
    (case c_iJ => k_is)
    (case k_iJ => k_is)
    (case a_iG => k_is)
    (case n_iG => k_is)
    (case l_iG => k_is)
    (case c_iG => k_is)
    (case k_iG => k_is)
    (case a_iC => k_is)
    (case n_iC => k_is)
    (case l_iC => k_is)
    (case c_iC => k_is)
    (case k_iC => k_is)
    (case a_sg => k_is)
    (case l_sg => k_is)
    (case c_sg => k_is)
    (case k_sg => k_is)
    (case a_lk => k_is)
    (case l_lk => k_is)
    (case c_lk => k_is)
    (case k_lk => k_is)
    (case a_inf => k_is)
    (case l_inf => k_is)
    (case c_inf => k_is)
    (case k_inf => k_is)
    (case a_qS => k_is)
    (case l_qS => k_is)
    (case c_qS => k_is)
    (case k_qS => k_is)
    (case a_qT => k_is)
    (case l_qT => k_is)
    (case c_qT => k_is)
    (case k_qT => k_is)
    (case a_qC => k_is)
    (case l_qC => k_is)
    (case c_qC => k_is)
    (case k_qC => k_is)
    (case a_qZ => k_is)
    (case l_qZ => k_is)
    (case c_qZ => k_is)
    (case k_qZ => k_is)
    (case a_qO => k_is)
    (case l_qO => k_is)
    (case c_qO => k_is)
    (case k_qO => k_is)
    (case a_qD => k_is)
    (case l_qD => k_is)
    (case c_qD => k_is)
    (case k_qD => k_is)
    (case a_lw => k_is)
    (case l_lw => k_is)
    (case c_lw => k_is)
    (case k_lw => k_is)
    (case pgcR => k_is)
    (case hdcR => k_is)
    (case pocR => k_is)
    (case sacR => k_is)
    (case mkcR => k_is)
    (case kccR => k_is)
    (case pgcK => k_is)
    (case hdcK => k_is)
    (case pocK => k_is)
    (case sacK => k_is)
    (case mkcK => k_is)
    (case kccK => k_is)
    (case pgcI => k_is)
    (case hdcI => k_is)
    (case pocI => k_is)
    (case sacI => k_is)
    (case mkcI => k_is)
    (case kccI => k_is)
    (case nocR_links => k_is)
    (case nocR_names => k_is)
    (case nocR_flows => k_is)
    (case nocK_rows => k_is)
    (case nocK_meanings => k_is)
    (case nocI_signatures => k_is)
    (case nocI_kinds => k_is)
    (case nocI_rows => k_is)
    (case nocI_types => k_is)
    (case nocI_own_rows => k_is)
    (case z_len => k_is)
    (case z_int => k_is)
    (case z_str => k_is)
    (case z_list => k_is)
    (case z_tuple => k_is)
    (case z_sorted => k_is)
    (case z_range => k_is)
    (case z_enumerate => k_is)
    (case z_zip => k_is)
    (case z_abs => k_is)
    (case z_isinstance => k_is)
    (case z_super => k_is)
    (case m_aI => k_is)
    (case x_aI => k_is)
    (case m_aB => k_is)
    (case x_aB => k_is)
    (case m_aU => k_is)
    (case x_aU => k_is)
    (case m_mz => k_is)
    (case m_aC => k_is)
    (case x_aC => k_is)
    (case y_aC => exact ⟨⟨_, _, rfl, rfl⟩, ⟨_, _, rfl, rfl⟩, ⟨_, _, rfl, rfl⟩, trivial⟩)
    (case w_aC => first | rfl | decide)
    (case v_num => k_is)
    (case v_name => k_is)
    (case v_fun => k_is)
    (case v_let => k_is)
    (case v_pair => k_is)
    (case v_fst => k_is)
    (case v_not => k_is)
    (case v_call => k_is)
    (case xU => k_is)
    (case saU => k_is)
    (case exU => k_is)
    (case tyU => k_is)
    (case kU => k_is)
    (case iU => k_is)
    (case tU => k_is)
    (case l_u => k_is)
    (case c_u => k_is)
    (case xcU => k_is)
    (case vcU => rfl)
    (case fcU => first | rfl | decide +kernel)
    (case xccU => k_is)
    (case opq => k_is)
    (case xF => k_is)
    (case nF => k_is)
    (case vU => k_is)
    (case mU => k_is)
    (case dU => k_is)
    (case nU => k_is)
    (case tp => first | rfl | decide +kernel)
    (case gaU => k_is)
    (case ggU => k_is)
    (case hdU => k_is)
    (case haU => k_is)
    (case hnU => k_is)
    (case htU => k_is)
    (case hmU => k_is)
    (case bF => k_is)
    (case iF => k_is)
    (case tF => k_is)
    (case sUF => k_is)
    (case iM => k_is)
    (case tM => k_is)
    (case sUM => k_is)
    (case sUU => k_is)
#print axioms PySem.Challenge.cw_askedfor_k09_large_types_holds
