import PyProof.Rows.All
import Wide.All
import OpenK.AllK
import Wide.FinOn
import Lean
import PySem.Challenge.RW_pf0141_01
set_option Elab.async false
set_option maxRecDepth 100000
set_option linter.all false
namespace Mine
section
open PySem PySem.W PyProof.Rows PySem.Calls
set_option genSizeOf false
set_option genInjectivity false

/-- abstract values -/
inductive AV where
  | none | bool (b : Bool) | int (i : Int) | str (s : List Nat)
  | tup (l : List AV) | lst (l : List AV) | con (a : Addr) | obj (i : Nat) | clo (c : List AV)
  deriving Inhabited

inductive AO where
  | list (l : List AV)
  | dict (es : List (List Nat × AV))
  | inst (C : Addr) (d : Nat)
  | attrs (es : List (List Nat × AV))
  | pin (es : List (List Nat × AV)) (o : Obj)
  deriving Inhabited

noncomputable abbrev St := List AO
noncomputable abbrev Loc := List (List Nat × AV)
noncomputable abbrev Led := List (Addr × Obj)

/-- the ghost: the mutable objects in order, the immutable ones, the law's base -/
structure GW where
  G : Heap
  Mu : Led
  I : Led

noncomputable def GW.Kn (W : GW) (a : Addr) (o : Obj) : Prop := (a, o) ∈ W.I ∨ W.G.get? a = some o
noncomputable def GW.Seq (W : GW) (ty : String) (a : Addr) (ws : List Value) : Prop := ∃ o n, W.Kn a o ∧ o.cls = .type ty ∧ o.data = .seq ws.toArray n
noncomputable def GW.ad (W : GW) : List Addr := W.Mu.map (·.1)

/-- the code of the one closure: given from outside -/
noncomputable abbrev CloRel := Led → Addr → List Value → Prop

mutual
inductive VR (CR : CloRel) (W : GW) : AV → Value → Prop
  | none : VR CR W .none .none
  | bool {b} : VR CR W (.bool b) (.bool b)
  | int {i t} : VR CR W (.int i) (.int i t)
  | str {s t} : VR CR W (.str s) (.str ⟨s.toArray⟩ t)
  | con {a} : VR CR W (.con a) (.ref a)
  | obj {i a} : W.ad[i]? = some a → VR CR W (.obj i) (.ref a)
  | tup {l ws a} : W.Seq "tuple" a ws → VRs CR W l ws → VR CR W (.tup l) (.ref a)
  | lst {l ws a} : W.Seq "list" a ws → VRs CR W l ws → VR CR W (.lst l) (.ref a)
  | clo {l ws a} : CR W.I a ws → VRs CR W l ws → VR CR W (.clo l) (.ref a)
inductive VRs (CR : CloRel) (W : GW) : List AV → List Value → Prop
  | nil : VRs CR W [] []
  | cons {a v l ws} : VR CR W a v → VRs CR W l ws → VRs CR W (a :: l) (v :: ws)
end

structure GW.Le (W W' : GW) : Prop where
  g : W'.G = W.G
  mu : ∃ x, W'.ad = W.ad ++ x
  im : ∀ p ∈ W.I, p ∈ W'.I

theorem GW.Le.refl (W : GW) : W.Le W := ⟨rfl, ⟨[], (List.append_nil _).symm⟩, fun _ h => h⟩
theorem GW.Le.trans {W₁ W₂ W₃ : GW} (x : W₁.Le W₂) (y : W₂.Le W₃) : W₁.Le W₃ := by
  obtain ⟨a, e⟩ := x.mu
  obtain ⟨b, f⟩ := y.mu
  exact ⟨y.g.trans x.g, ⟨a ++ b, by rw [f, e, List.append_assoc]⟩, fun p h => y.im p (x.im p h)⟩
theorem GW.Le.kn {W W' : GW} (x : W.Le W') {a o} (h : W.Kn a o) : W'.Kn a o := h.elim (fun h => .inl (x.im _ h)) (fun h => .inr (by rw [x.g]; exact h))
theorem GW.Le.seq {W W' : GW} (x : W.Le W') {ty a ws} (h : W.Seq ty a ws) : W'.Seq ty a ws := let ⟨o, n, k, r⟩ := h; ⟨o, n, x.kn k, r⟩

noncomputable def CloMono (CR : CloRel) : Prop := ∀ I I' v ws, (∀ p ∈ I, p ∈ I') → CR I v ws → CR I' v ws

section
variable {CR : CloRel} (hm : CloMono CR) {W W' : GW} (le : W.Le W')
include hm le
theorem ad_mono {i : Nat} {a : Addr} (h : W.ad[i]? = some a) : W'.ad[i]? = some a := by
  obtain ⟨x, e⟩ := le.mu
  rw [e, List.getElem?_append_left (List.getElem?_eq_some_iff.mp h).1]
  exact h
theorem VR.mono {a v} (h : VR CR W a v) : VR CR W' a v :=
  VR.rec (motive_1 := fun a v _ => VR CR W' a v) (motive_2 := fun l ws _ => VRs CR W' l ws) .none .bool .int .str .con (fun h => .obj (ad_mono hm le h)) (fun h _ r => .tup (le.seq h) r) (fun h _ r => .lst (le.seq h) r) (fun h _ r => .clo (hm _ _ _ _ le.im h) r) .nil (fun _ _ h r => .cons h r) h
end
/-- by induction over a row -/
theorem VRs.ind {CR W} {P : List AV → List Value → Prop} (h0 : P [] []) (h1 : ∀ {a v l ws}, VR CR W a v → VRs CR W l ws → P l ws → P (a :: l) (v :: ws)) {l ws} (h : VRs CR W l ws) : P l ws :=
  VRs.rec (motive_1 := fun _ _ _ => True) (motive_2 := fun l ws _ => P l ws) trivial trivial trivial trivial trivial (fun _ => trivial) (fun _ _ _ => trivial) (fun _ _ _ => trivial) (fun _ _ _ => trivial) h0 (fun V r _ ih => h1 V r ih) h
theorem VRs.mono {CR : CloRel} (hm : CloMono CR) {W W' : GW} (le : W.Le W') {l ws} (h : VRs CR W l ws) : VRs CR W' l ws := VRs.ind (P := fun l ws => VRs CR W' l ws) .nil (fun V _ ih => .cons (V.mono hm le) ih) h
theorem VRs.length {CR W} {l ws} (h : VRs CR W l ws) : ws.length = l.length := VRs.ind (P := fun l ws => ws.length = l.length) rfl (fun _ _ ih => congrArg Nat.succ ih) h
theorem VRs.get {CR W} {l ws} (h : VRs CR W l ws) : ∀ {i : Nat} {a}, l[i]? = some a → ∃ v, ws[i]? = some v ∧ VR CR W a v :=
  VRs.ind (P := fun l ws => ∀ {i : Nat} {a}, l[i]? = some a → ∃ v, ws[i]? = some v ∧ VR CR W a v) (fun h => nomatch h) (fun {a v l ws} V _ ih {i b} h => match i, h with
    | 0, h => ⟨v, rfl, Option.some.inj h ▸ V⟩
    | i + 1, h => ih (i := i) h) h
theorem VRs.append {CR W} {l ws l' ws'} (h : VRs CR W l ws) (h' : VRs CR W l' ws') : VRs CR W (l ++ l') (ws ++ ws') := VRs.ind (P := fun l ws => VRs CR W (l ++ l') (ws ++ ws')) h' (fun V _ ih => .cons V ih) h

/-- rows of a dict with texts for keys -/
inductive ER (CR : CloRel) (W : GW) : List (List Nat × AV) → List (Str × Value) → Prop
  | nil : ER CR W [] []
  | cons {k a v l ws} : VR CR W a v → ER CR W l ws → ER CR W ((k, a) :: l) ((⟨k.toArray⟩, v) :: ws)
theorem ER.mono {CR : CloRel} (hm : CloMono CR) {W W' : GW} (le : W.Le W') {l ws} (h : ER CR W l ws) : ER CR W' l ws := by
  induction h with
  | nil => exact .nil
  | cons V _ ih => exact .cons (V.mono hm le) ih
inductive AR (CR : CloRel) (W : GW) : List (List Nat × AV) → List DictEntry → Prop
  | nil : AR CR W [] []
  | cons {k a v l ws hsh t} : VR CR W a v → AR CR W l ws → AR CR W ((k, a) :: l) (⟨hsh, .str ⟨k.toArray⟩ t, v⟩ :: ws)
theorem AR.mono {CR : CloRel} (hm : CloMono CR) {W W' : GW} (le : W.Le W') {l ws} (h : AR CR W l ws) : AR CR W' l ws := by
  induction h with
  | nil => exact .nil
  | cons V _ ih => exact .cons (V.mono hm le) ih

inductive OR (CR : CloRel) (prog : Program) (w : World) (W : GW) : AO → Obj → Prop
  | list {l ws n} : VRs CR W l ws → OR CR prog w W (.list l) (listOf ws.toArray n)
  | dict {es kvs o} : ER CR W es kvs → o.IsDictOf (strKind prog w) kvs → OR CR prog w W (.dict es) o
  | inst {C d dx} : W.ad[d]? = some dx → OR CR prog w W (.inst C d) (instObj C dx)
  | attrs {es ds n} : AR CR W es ds → OR CR prog w W (.attrs es) (dictOf ds n)
  | pin {es kvs o} : ER CR W es kvs → o.IsDictOf (strKind prog w) kvs → OR CR prog w W (.pin es o) o
theorem OR.mono {CR : CloRel} (hm : CloMono CR) {prog w} {W W' : GW} (le : W.Le W') {a o} (h : OR CR prog w W a o) : OR CR prog w W' a o := by
  cases h with
  | list r => exact .list (r.mono hm le)
  | dict r d => exact .dict (r.mono hm le) d
  | inst h => exact .inst (ad_mono hm le h)
  | attrs r => exact .attrs (r.mono hm le)
  | pin r d => exact .pin (r.mono hm le) d

inductive HR (CR : CloRel) (prog : Program) (w : World) (W : GW) : St → Led → Prop
  | nil : HR CR prog w W [] []
  | cons {a σ p l} : OR CR prog w W a p.2 → HR CR prog w W σ l → HR CR prog w W (a :: σ) (p :: l)
theorem HR.mono {CR : CloRel} (hm : CloMono CR) {prog w} {W W' : GW} (le : W.Le W') {σ l} (h : HR CR prog w W σ l) : HR CR prog w W' σ l := by
  induction h with
  | nil => exact .nil
  | cons V _ ih => exact .cons (V.mono hm le) ih
theorem HR.length {CR prog w W} {σ l} (h : HR CR prog w W σ l) : l.length = σ.length := by
  induction h with
  | nil => rfl
  | cons _ _ ih => exact congrArg Nat.succ ih
theorem HR.get {CR prog w W} {σ l} (h : HR CR prog w W σ l) : ∀ {i : Nat} {a}, σ[i]? = some a → ∃ p, l[i]? = some p ∧ OR CR prog w W a p.2 := by
  induction h with
  | nil => intro i a h; exact nomatch h
  | cons V _ ih =>
    intro i a h
    cases i with
    | zero => exact ⟨_, rfl, Option.some.inj h ▸ V⟩
    | succ i => exact ih (i := i) h
theorem HR.snoc {CR prog w W} {σ l a p} (h : HR CR prog w W σ l) (h' : OR CR prog w W a p.2) : HR CR prog w W (σ ++ [a]) (l ++ [p]) := by
  induction h with
  | nil => exact .cons h' .nil
  | cons V _ ih => exact .cons V ih
theorem HR.set {CR prog w W} {σ l a p} (h : HR CR prog w W σ l) : ∀ (i : Nat), OR CR prog w W a p.2 → HR CR prog w W (σ.set i a) (l.set i p) := by
  induction h with
  | nil => intro i _; exact .nil
  | cons V r ih =>
    intro i h'
    cases i with
    | zero => exact .cons h' r
    | succ i => exact .cons V (ih i h')
theorem HR.takes {CR prog w W} {σ l} (h : HR CR prog w W σ l) : ∀ n, HR CR prog w W (σ.take n) (l.take n) := by
  induction h with
  | nil => intro n; rw [List.take_nil, List.take_nil]; exact .nil
  | cons V r ih =>
    intro n
    cases n with
    | zero => exact .nil
    | succ n => exact .cons V (ih n)
end
section
open PySem PySem.W PyProof.Rows PySem.Calls
set_option genSizeOf false
set_option genInjectivity false

inductive BI where
  | len | abs | max | min | chr | ord | divmod | isinstance | list | dict | tuple | range | enumerate
  deriving DecidableEq
noncomputable def BI.val : BI → Value
  | .len => .builtin "len" | .abs => .builtin "abs" | .max => .builtin "max" | .min => .builtin "min" | .chr => .builtin "chr" | .ord => .builtin "ord" | .divmod => .builtin "divmod"
  | .isinstance => .builtin "isinstance" | .list => .type "list" | .dict => .type "dict" | .tuple => .type "tuple" | .range => .type "range" | .enumerate => .type "enumerate"
noncomputable def BI.name : BI → Str
  | .len => "len" | .abs => "abs" | .max => "max" | .min => "min" | .chr => "chr" | .ord => "ord" | .divmod => "divmod"
  | .isinstance => "isinstance" | .list => "list" | .dict => "dict" | .tuple => "tuple" | .range => "range" | .enumerate => "enumerate"

inductive MN where
  | append | find | join | get | user (n : List Nat)

inductive X where
  | const (v : AV)
  | bi (b : BI)
  | name (x : List Nat)
  | tup (es : List X)
  | lst (es : List X)
  | dict (es : List (List Nat × X))
  | bin (op : Operator) (a b : X)
  | un (op : UnaryOp) (a : X)
  | cmp (a : X) (ops : List CmpOp) (bs : List X)
  | bool (op : BoolOp) (es : List X)
  | ite (c a b : X)
  | sub (a i : X)
  | slc (a : X) (lo hi : Option X)
  | attr (a : X) (n : List Nat)
  | call (f : X) (as : List X)
  | bcall (b : BI) (as : List X)
  | meth (a : X) (n : MN) (as : List X)
  | comp (e : X) (x : List Nat) (fs : List (List Nat)) (it : X)
  deriving Inhabited

inductive XT where
  | name (x : List Nat)
  | tup (ts : List (List Nat))
  | rtup (ts : List (List Nat))
  | sub (a i : X)
  | attr (a : X) (n : List Nat)
  deriving Inhabited

inductive XS where
  | asg (t : XT) (e : X)
  | aug (x : List Nat) (op : Operator) (e : X)
  | augSub (a i : X) (op : Operator) (e : X)
  | ite (c : X) (a b : List XS)
  | ret (e : X)
  | loop (x : List Nat) (it : X) (b : List XS)
  | whl (c : X) (b : List XS)
  | raise (t : List Nat)
  | expr (e : X)
  deriving Inhabited

noncomputable def cp (s : Str) : List Nat := s.cps.toList

noncomputable def mapO {α β : Type} (f : α → Option β) : List α → Option (List β)
  | [] => some []
  | a :: r => (f a).bind fun b => (mapO f r).bind fun bs => some (b :: bs)

inductive GV where
  | av (a : AV)
  | bi (b : BI)

noncomputable def methOf (n : List Nat) : MN :=
  if n = [97, 112, 112, 101, 110, 100] then .append else if n = [102, 105, 110, 100] then .find else if n = [106, 111, 105, 110] then .join else if n = [103, 101, 116] then .get else .user n

noncomputable def notCall : Expr → Bool
  | .Call _ _ _ _ => false
  | _ => true

noncomputable def srcOk : X → Bool
  | .bcall .range [_] => true
  | .bcall _ _ => false
  | _ => true
/-- no condition, no builtin, no builtin's call -/
noncomputable def condX : X → Bool
  | .bool _ _ => true
  | .un .Not _ => true
  | .cmp _ _ _ => true
  | .ite _ _ _ => true
  | _ => false
noncomputable def bcX : X → Bool
  | .bcall _ _ => true
  | _ => false
noncomputable def biX : X → Bool
  | .bi _ => true
  | _ => false
/-- a comprehension's names -/
noncomputable def compOk (sc : List (Str × NameKind)) (s : Scope) : Bool := s.kind == .function && s.names.all fun q => match q.2 with
  | .local => s.names.lookup q.1 == some .local
  | .cell => false
  | .free => sc.lookup q.1 == some .cell && s.names.lookup q.1 == some .free
  | _ => true

section
variable (gl : Str → Option GV)
noncomputable def trC : Const → Option X
  | .none => some (.const .none)
  | .bool b => some (.const (.bool b))
  | .int i => some (.const (.int i))
  | .str s => some (.const (.str (cp s)))
  | _ => none

noncomputable def trK : Option Expr → Option (List Nat)
  | some (.Constant (.str s) _ _) => some (cp s)
  | _ => none

/-- a value under a test -/
noncomputable def og {α : Type} (p : Prop) [Decidable p] (a : α) : Option α := if p then some a else none
noncomputable def gvX : Option GV → Option X
  | some (.av a) => some (.const a)
  | some (.bi b) => some (.bi b)
  | none => none
noncomputable def trNm (sc : List (Str × NameKind)) (x : Str) : Option X := if x = ("__debug__" : Str) then none else match sc.lookup x with
  | some .local => some (.name (cp x))
  | some .cell => some (.name (cp x))
  | some .free => some (.name (cp x))
  | some .globalImplicit => gvX (gl x)
  | _ => none
noncomputable def trO (t : Expr → Option X) : Option Expr → Option (Option X)
  | none => some none
  | some e => (t e).bind fun x => some (some x)
noncomputable def trSub (t : Expr → Option X) (v : Expr) : Expr → Option X
  | .Slice lo hi st _ => (t v).bind fun a => (trO t lo).bind fun l => (trO t hi).bind fun h => og (st = none ∧ hi ≠ none) (.slc a l h)
  | i => (t v).bind fun a => (t i).bind fun b => some (.sub a b)
noncomputable def trFn (f : X) (xs : List X) : Option X := match f with
  | .bi b => og (¬ (b = .isinstance ∧ ¬ xs.length = 2)) (.bcall b xs)
  | a => some (.call a xs)
noncomputable def trCall (t : Expr → Option X) (as : List Expr) (p : Pos) : Expr → Option X
  | .Attribute o nm ap => (t o).bind fun a => (mapO t as).bind fun xs => og (notCall o = true ∧ ap.endLine = p.line ∧ as.length < 20) (.meth a (methOf (cp nm)) xs)
  | f => (t f).bind fun a => (mapO t as).bind fun xs => trFn a xs
noncomputable def nmP : Expr → Option (Str × Pos)
  | .Name x p => some (x, p)
  | _ => none
noncomputable def trComp (t : List (Str × NameKind) → Expr → Option X) (sc : List (Str × NameKind)) (elt : Expr) (scope : Scope) : List Comprehension → Option X
  | [⟨tg, it, ifs, asy⟩] => (nmP tg).bind fun x => (t scope.names elt).bind fun a => (t sc it).bind fun b => og (ifs = [] ∧ asy = 0 ∧ scope.names.lookup x.1 = some .local ∧ compOk sc scope = true ∧ srcOk b = true) (.comp a (cp x.1) ((scope.names.filter fun q => decide (q.2 = .free)).map fun q => cp q.1) b)
  | _ => none
noncomputable def trE : Nat → List (Str × NameKind) → Expr → Option X
  | 0, _, _ => none
  | n + 1, sc, e => match e with
    | .Constant c _ _ => trC c
    | .Name x _ => trNm gl sc x
    | .Tuple es _ _ => (mapO (trE n sc) es).bind fun xs => some (.tup xs)
    | .List es _ => (mapO (trE n sc) es).bind fun xs => some (.lst xs)
    | .Dict ks vs _ => (mapO trK ks).bind fun kn => (mapO (trE n sc) vs).bind fun xs => og (kn.length = xs.length ∧ kn.Nodup ∧ (kn.length ≤ 15 ∨ kn.length = 21)) (.dict (kn.zip xs))
    | .BinOp l op r _ => (trE n sc l).bind fun a => (trE n sc r).bind fun b => some (.bin op a b)
    | .UnaryOp op a _ => (trE n sc a).bind fun a => some (.un op a)
    | .BoolOp op es _ => (mapO (trE n sc) es).bind fun xs => some (.bool op xs)
    | .Compare l ops rs _ => (trE n sc l).bind fun a => (mapO (trE n sc) rs).bind fun bs => og (ops.length = bs.length ∧ ops ≠ []) (.cmp a ops bs)
    | .IfExp c a b _ => (trE n sc c).bind fun c => (trE n sc a).bind fun a => (trE n sc b).bind fun b => some (.ite c a b)
    | .Subscript v i _ => trSub (trE n sc) v i
    | .Call f as kw p => match kw with
      | [] => trCall (trE n sc) as p f
      | _ => none
    | .Attribute o nm _ => (trE n sc o).bind fun a => og (notCall o = true) (.attr a (cp nm))
    | .ListComp elt gens scope _ => trComp (trE n) sc elt scope gens
    | _ => none

noncomputable def trN (sc : List (Str × NameKind)) (e : Expr) : Option (List Nat) := (nmP e).bind fun x => og (sc.lookup x.1 = some .local) (cp x.1)

/-- no comprehension: the others' stores are not exchanged -/
noncomputable def notComp : Expr → Bool
  | .ListComp .. => false
  | _ => true
noncomputable def asTup : Expr → Option (List Expr)
  | .Tuple vs _ _ => some vs
  | _ => none
/-- a name in the block's line -/
noncomputable def swF (sc : List (Str × NameKind)) (line : Nat) (e : Expr) : Option Str := (nmP e).bind fun x => if sc.lookup x.1 == some .local && x.2.line == line then some x.1 else none
noncomputable def swN (sc : List (Str × NameKind)) (ts : List Expr) : List Str := ts.filterMap (swF sc ((ts.head?.map (·.pos.line)).getD 0))
/-- names that are stored the other way round -/
noncomputable def swapC (sc : List (Str × NameKind)) (ts vs : List Expr) : Option (List Str) :=
  if !(ts.length == 2 || ts.length == 3) || vs.length != ts.length then none
  else if vs.any (fun | .Starred .. => true | _ => false) then none
  else if (swN sc ts).length != ts.length || (swN sc ts).eraseDups.length != (swN sc ts).length then none
  else if vs.all (foldedForSure 8) then none
  else if vs.all (constantsAlone 8) then none
  else some (swN sc ts)
noncomputable def swapN (x : Str) (p : Pos) (e : Expr) : Bool := match e with
  | .ListComp _ _ scope _ => p.line == e.pos.line && !(scope.names.any fun (n, k) => n == x && (k == .local || k == .cell))
  | _ => false

noncomputable def trAsg (t : Expr → Option X) (sc : List (Str × NameKind)) (e : Expr) (y : X) : Expr → Option XS
  | .Name x p => og (sc.lookup x = some .local ∧ (notComp e = true ∨ swapN x p e = true)) (.asg (.name (cp x)) y)
  | .Tuple ts _ _ => match asTup e with
    | some vs => (swapC sc ts vs).bind fun xs => some (.asg (.rtup (xs.map cp)) y)
    | none => (mapO (trN sc) ts).bind fun xs => og (notComp e = true) (.asg (.tup xs) y)
  | .Subscript o i _ => (t o).bind fun a => (t i).bind fun b => og (notComp e = true) (.asg (.sub a b) y)
  | .Attribute o nm _ => (t o).bind fun a => og (notComp e = true) (.asg (.attr a (cp nm)) y)
  | _ => none
noncomputable def trAug (t : Expr → Option X) (sc : List (Str × NameKind)) (op : Operator) (y : X) : Expr → Option XS
  | .Name x _ => og (sc.lookup x = some .local) (.aug (cp x) op y)
  | .Subscript o i _ => (t o).bind fun a => (t i).bind fun b => some (.augSub a b op y)
  | _ => none
noncomputable def trFor (sc : List (Str × NameKind)) (i : X) (b : List XS) (e : Expr) : Option XS := (nmP e).bind fun x => og (sc.lookup x.1 = some .local ∧ srcOk i = true) (.loop (cp x.1) i b)
noncomputable def trRaC (RF : Str) (sc : List (Str × NameKind)) : Expr → Option XS
  | .Call f [a] kw _ => (nmP f).bind fun x => (trK (some a)).bind fun t => og (kw = [] ∧ x.1 = RF ∧ sc.lookup x.1 = some .globalImplicit) (.raise t)
  | _ => none
noncomputable def trRaise (RF : Str) (sc : List (Str × NameKind)) : Option Expr → Option Expr → Option XS
  | some e, none => trRaC RF sc e
  | _, _ => none
noncomputable def trRet (t : Expr → Option X) : Option Expr → Option XS
  | none => some (.ret (.const .none))
  | some e => (t e).bind fun x => some (.ret x)
noncomputable def trS (RF : Str) : Nat → List (Str × NameKind) → Stmt → Option XS
  | 0, _, _ => none
  | n + 1, sc, st => match st with
    | .Return e _ => trRet (trE gl n sc) e
    | .Assign ts e _ => match ts with
      | [a] => (trE gl n sc e).bind fun y => trAsg (trE gl n sc) sc e y a
      | _ => none
    | .AugAssign a op e _ => (trE gl n sc e).bind fun y => trAug (trE gl n sc) sc op y a
    | .If c a b _ => (trE gl n sc c).bind fun c => (mapO (trS RF n sc) a).bind fun a => (mapO (trS RF n sc) b).bind fun b => some (.ite c a b)
    | .For x it b els _ => (trE gl n sc it).bind fun i => (mapO (trS RF n sc) b).bind fun b => match els with
      | [] => trFor sc i b x
      | _ => none
    | .While c b els _ => (trE gl n sc c).bind fun c => (mapO (trS RF n sc) b).bind fun b => og (els = []) (.whl c b)
    | .Raise e f _ => trRaise RF sc e f
    | .Expr e _ => (trE gl n sc e).bind fun x => og (notComp e = true) (.expr x)
    | _ => none
end

/-! ## the evaluator -/
inductive Fn where
  | top (a : Addr)
  | clo (c : List AV)

noncomputable abbrev KE := AV → St → Prop
noncomputable abbrev Ctr := Fn → List AV → St → (St → Prop) → KE → Prop

noncomputable def look {α : Type} (x : List Nat) : List (List Nat × α) → Option α
  | [] => none
  | (y, v) :: r => if x = y then some v else look x r
noncomputable def dput {α : Type} (x : List Nat) (v : α) : List (List Nat × α) → List (List Nat × α)
  | [] => [(x, v)]
  | (y, u) :: r => if x = y then (y, v) :: r else (y, u) :: dput x v r

noncomputable abbrev sel (b : Bool) (P Q : Prop) : Prop := Bool.rec Q P b
theorem sel_g {b : Bool} {P Q : Prop} (h : sel b P Q) : @Bool.rec (fun _ => Prop) Q P b := h
theorem sel_of {b : Bool} {P Q : Prop} (h1 : b = true → P) (h2 : b = false → Q) : sel b P Q := by cases b; exact h2 rfl; exact h1 rfl
theorem sel_t {P Q : Prop} (h : P) : sel true P Q := h
theorem sel_f {P Q : Prop} (h : Q) : sel false P Q := h
theorem sel_true {P Q : Prop} : sel true P Q ↔ P := Iff.rfl
theorem sel_false {P Q : Prop} : sel false P Q ↔ Q := Iff.rfl

noncomputable def truth : AV → Option Bool
  | .bool b => some b
  | .none => some false
  | .int i => some (decide (i ≠ 0))
  | _ => none

noncomputable def isInts : List AV → Option (List Int)
  | [] => some []
  | .int i :: r => (isInts r).bind fun l => some (i :: l)
  | _ => none
noncomputable def isStrs : List AV → Option (List (List Nat))
  | [] => some []
  | .str i :: r => (isStrs r).bind fun l => some (i :: l)
  | _ => none
noncomputable def maxI : Int → List Int → Int
  | a, [] => a
  | a, b :: r => maxI (if b > a then b else a) r
noncomputable def minI : Int → List Int → Int
  | a, [] => a
  | a, b :: r => minI (if b < a then b else a) r

noncomputable def strLt (a b : List Nat) : Bool := decide (a < b)

noncomputable def isSub (x y : List Nat) : Bool := Txt.contains ⟨y.toArray⟩ ⟨x.toArray⟩

noncomputable def rep (s : List Nat) (n : Int) : List Nat := (List.replicate n.toNat s).flatten

/-! what is asked of values, with what is inside -/
noncomputable def osB {α : Type} (f : α → Prop) : Option α → Prop
  | some a => f a
  | none => False
noncomputable def asInt : AV → Option Int
  | .int a => some a
  | _ => none
noncomputable def asStr : AV → Option (List Nat)
  | .str a => some a
  | _ => none
noncomputable def asLst : AV → Option (List AV)
  | .lst a => some a
  | _ => none
noncomputable def asObj : AV → Option Nat
  | .obj a => some a
  | _ => none
noncomputable def asBool : AV → Option Bool
  | .bool a => some a
  | _ => none
noncomputable def asList : AO → Option (List AV)
  | .list l => some l
  | _ => none
noncomputable def asDict : AO → Option (List (List Nat × AV))
  | .dict l => some l
  | _ => none
noncomputable def asInst : AO → Option (Addr × Nat)
  | .inst C d => some (C, d)
  | _ => none
noncomputable def asAtts : AO → Option (List (List Nat × AV))
  | .attrs l => some l
  | _ => none
noncomputable def intB (f : Int → Prop) (a : AV) : Prop := osB f (asInt a)
noncomputable def strB (f : List Nat → Prop) (a : AV) : Prop := osB f (asStr a)
noncomputable def lstB (f : List AV → Prop) (a : AV) : Prop := osB f (asLst a)
noncomputable def objB (f : Nat → Prop) (a : AV) : Prop := osB f (asObj a)
noncomputable def intV {α : Type} (f : Int → Option α) (a : AV) : Option α := (asInt a).bind f
noncomputable def strV {α : Type} (f : List Nat → Option α) (a : AV) : Option α := (asStr a).bind f
noncomputable def lstV {α : Type} (f : List AV → Option α) (a : AV) : Option α := (asLst a).bind f
noncomputable def objV {α : Type} (f : Nat → Option α) (a : AV) : Option α := (asObj a).bind f
noncomputable def boolV {α : Type} (f : Bool → Option α) (a : AV) : Option α := (asBool a).bind f
noncomputable def listB (f : List AV → Prop) (o : Option AO) : Prop := osB f (o.bind asList)
noncomputable def dictB (f : List (List Nat × AV) → Prop) (o : Option AO) : Prop := osB f (o.bind asDict)
noncomputable def instB (f : Addr → Nat → Prop) (o : Option AO) : Prop := osB (fun q => f q.1 q.2) (o.bind asInst)
noncomputable def attsB (f : List (List Nat × AV) → Prop) (o : Option AO) : Prop := osB f (o.bind asAtts)
noncomputable def listV {α : Type} (f : List AV → Option α) (o : Option AO) : Option α := (o.bind asList).bind f
noncomputable def dictV {α : Type} (f : List (List Nat × AV) → Option α) (o : Option AO) : Option α := (o.bind asDict).bind f
noncomputable def rowsV {α : Type} (f : List (List Nat × AV) → Option α) : Option AO → Option α
  | some (.dict l) => f l
  | some (.pin l _) => f l
  | _ => none
noncomputable def instV {α : Type} (f : Addr → Nat → Option α) (o : Option AO) : Option α := (o.bind asInst).bind fun q => f q.1 q.2
noncomputable def attsV {α : Type} (f : List (List Nat × AV) → Option α) (o : Option AO) : Option α := (o.bind asAtts).bind f
noncomputable def oneB (f : AV → Prop) : List AV → Prop
  | [u] => f u
  | _ => False
noncomputable def twoB (f : AV → AV → Prop) : List AV → Prop
  | [u, v] => f u v
  | _ => False

noncomputable def addB (v : AV) (σ : St) (Q : KE) : AV → Prop
  | .int a => intB (fun b => Q (.int (a + b)) σ) v
  | .str a => strB (fun b => a.length + b.length ≤ 16777216 ∧ Q (.str (a ++ b)) σ) v
  | .lst a => lstB (fun b => a.length + b.length ≤ 1000000 ∧ Q (.lst (a ++ b)) σ) v
  | _ => False
noncomputable def mulB (v : AV) (σ : St) (Q : KE) : AV → Prop
  | .int a => intB (fun b => (a.natAbs < 2 ^ 62 ∨ b.natAbs < 2 ^ 62) ∧ Q (.int (a * b)) σ) v
  | .str a => intB (fun n => a.length ≤ 1000 ∧ -1000 ≤ n ∧ n ≤ 1000 ∧ Q (.str (rep a n)) σ) v
  | .lst a => intB (fun n => a.length ≤ 10 ∧ -20 ≤ n ∧ n ≤ 20 ∧ Q (.obj σ.length) (σ ++ [.list (List.replicate n.toNat a).flatten])) v
  | _ => False
noncomputable def twoI (u v : AV) (f : Int → Int → Prop) : Prop := intB (fun a => intB (f a) v) u
noncomputable def binop (op : Operator) (u v : AV) (σ : St) (Q : KE) : Prop := match op with
  | .Add => addB v σ Q u
  | .Sub => twoI u v fun a b => Q (.int (a - b)) σ
  | .Mult => mulB v σ Q u
  | .FloorDiv => twoI u v fun a b => b ≠ 0 ∧ a.natAbs < 2 ^ 62 ∧ Q (.int (a.fdiv b)) σ
  | .Mod => twoI u v fun a b => b ≠ 0 ∧ Q (.int (a.fmod b)) σ
  | .Pow => twoI u v fun a n => 0 ≤ n ∧ n ≤ 1000 ∧ a.natAbs ≤ 1000 ∧ Q (.int (a ^ n.toNat)) σ
  | .LShift => twoI u v fun a n => 0 ≤ n ∧ n ≤ 1000 ∧ a.natAbs < 2 ^ 62 ∧ Q (.int (a * 2 ^ n.toNat)) σ
  | _ => False

/-- a value under a condition -/
@[irreducible] noncomputable def guardO {α : Type} (p : Prop) [Decidable p] (a : α) : Option α := if p then some a else none
theorem guardO_pos {α : Type} {p : Prop} [Decidable p] {a : α} (h : p) : guardO p a = some a := by unfold guardO; exact if_pos h
noncomputable def augop (op : Operator) (u v : AV) : Option AV := match op with
  | .Add => intV (fun a => intV (fun b => some (.int (a + b))) v) u
  | .Mult => intV (fun a => intV (fun b => guardO (a.natAbs < 2 ^ 62 ∨ b.natAbs < 2 ^ 62) (.int (a * b))) v) u
  | .FloorDiv => intV (fun a => intV (fun b => guardO (b ≠ 0 ∧ a.natAbs < 2 ^ 62) (.int (a.fdiv b))) v) u
  | _ => none

theorem aug_div {a b : Int} (h : b ≠ 0 ∧ a.natAbs < 2 ^ 62) : augop .FloorDiv (.int a) (.int b) = some (.int (a.fdiv b)) := guardO_pos h
theorem aug_mul {a b : Int} (h : a.natAbs < 2 ^ 62 ∨ b.natAbs < 2 ^ 62) : augop .Mult (.int a) (.int b) = some (.int (a * b)) := guardO_pos h
noncomputable def unop : UnaryOp → AV → Option AV
  | .USub, .int a => some (.int (-a))
  | .Not, v => (truth v).bind fun b => some (.bool (!b))
  | _, _ => none

noncomputable def isNone : AV → Bool
  | .none => true
  | _ => false
/-- an item's text, where each is a text or None -/
noncomputable def anyNone : List AV → Option Bool
  | [] => some false
  | .none :: r => (anyNone r).bind fun _ => some true
  | .str _ :: r => anyNone r
  | _ => none

noncomputable def tupV {α : Type} (f : List AV → Option α) : AV → Option α
  | .tup a => f a
  | _ => none
noncomputable def eqC (u v : AV) (σ : St) : Option Bool := match u with
  | .int a => intV (fun b => some (decide (a = b))) v
  | .str a => strV (fun b => some (decide (a = b))) v
  | .bool a => boolV (fun b => some (decide (a = b))) v
  | .obj i => objV (fun j => listV (fun a => listV (fun b => (isInts a).bind fun x => (isInts b).bind fun y => some (decide (x = y))) σ[j]?) σ[i]?) v
  | _ => none
noncomputable def ordC (f : Int → Int → Bool) (g : List Nat → List Nat → Bool) (u v : AV) : Option Bool := match u with
  | .int a => intV (fun b => some (f a b)) v
  | .str a => strV (fun b => some (g a b)) v
  | _ => none
noncomputable def isC (u : AV) : AV → Option Bool
  | .none => some (isNone u)
  | _ => none
noncomputable def inS (x : List Nat) (v : AV) (σ : St) : Option Bool := match v with
  | .tup l => (isStrs l).bind fun ys => some (ys.any fun y => decide (y = x))
  | .obj i => dictV (fun es => some (look x es).isSome) σ[i]?
  | .str y => some (isSub x y)
  | _ => none
noncomputable def inC (u v : AV) (σ : St) : Option Bool := match u with
  | .str x => inS x v σ
  | .none => lstV anyNone v
  | _ => none
noncomputable def ninS (x : List Nat) (v : AV) (σ : St) : Option Bool := match v with
  | .obj i => dictV (fun es => some (!(look x es).isSome)) σ[i]?
  | .str y => some (!isSub x y)
  | _ => none
noncomputable def ninC (u v : AV) (σ : St) : Option Bool := strV (fun x => ninS x v σ) u
noncomputable def cmpop (op : CmpOp) (u v : AV) (σ : St) : Option Bool := match op with
  | .Eq => eqC u v σ
  | .NotEq => ordC (fun a b => decide (a ≠ b)) (fun a b => decide (a ≠ b)) u v
  | .Lt => ordC (fun a b => decide (a < b)) strLt u v
  | .LtE => ordC (fun a b => decide (a ≤ b)) (fun a b => !strLt b a) u v
  | .Gt => ordC (fun a b => decide (b < a)) (fun a b => strLt b a) u v
  | .GtE => ordC (fun a b => decide (b ≤ a)) (fun a b => !strLt a b) u v
  | .Is => isC u v
  | .IsNot => (isC u v).bind fun b => some (!b)
  | .In => inC u v σ
  | .NotIn => ninC u v σ

noncomputable def idx {α : Type} (l : List α) (i : Int) : Option α :=
  if 0 ≤ i then (if i < 1000000 then l[i.toNat]? else none) else if -(l.length : Int) ≤ i ∧ -1000000 ≤ i then l[(i + l.length).toNat]? else none

noncomputable def subObj (o : Option AO) : AV → Option AV
  | .int i => listV (fun l => idx l i) o
  | .str k => rowsV (fun es => look k es) o
  | _ => none
noncomputable def subop (u v : AV) (σ : St) : Option AV := match u with
  | .tup l => intV (fun i => idx l i) v
  | .lst l => intV (fun i => idx l i) v
  | .str s => intV (fun i => (idx s i).bind fun c => some (.str [c])) v
  | .obj j => subObj σ[j]? v
  | _ => none

noncomputable def cutL {α : Type} (l : List α) (a b : Nat) : List α := (l.drop a).take (b - a)

noncomputable def partV {α : Type} (f : Int → Option α) : Option AV → Option α
  | some v => intV f v
  | none => none
noncomputable def cutV (l : List AV) (lo hi : Option AV) : Option AV := partV (fun a => partV (fun b => guardO (0 ≤ a ∧ a ≤ b ∧ b ≤ l.length ∧ l.length ≤ 1000000) (.lst (cutL l a.toNat b.toNat))) hi) lo
noncomputable def slcS (s : List Nat) (hi : Option AV) : Option AV → Option AV
  | none => partV (fun n => guardO (0 ≤ n ∧ n ≤ s.length ∧ s.length ≤ 1000000) (.str (s.take n.toNat))) hi
  | some _ => none
noncomputable def slcop (u : AV) (lo hi : Option AV) (σ : St) : Option AV := match u with
  | .str s => slcS s hi lo
  | .lst l => cutV l lo hi
  | .obj j => listV (fun l => cutV l lo hi) σ[j]?
  | _ => none

noncomputable def attrNames : List (List Nat) := [[110, 117, 109, 101, 114, 105, 99], [99, 104, 97, 114, 97, 99, 116, 101, 114, 115], [109, 101, 109, 111, 114, 121], [108, 105, 109, 105, 116, 115], [117, 110, 105, 116, 115], [119, 111, 114, 108, 100], [101, 120, 112, 114, 101, 115, 115, 105, 111, 110, 115], [115, 116, 97, 116, 101, 109, 101, 110, 116, 115], [102, 114, 97, 109, 101], [100, 101, 112, 116, 104], [115, 116, 101, 112, 115], [112, 108, 97, 99, 101, 115], [102, 108, 111, 119, 115], [99, 108, 101, 97, 114, 115], [97, 99, 116, 105, 118, 101], [108, 111, 111, 112, 115], [111, 112, 101, 114, 97, 116, 105, 111, 110, 115], [108, 105, 98, 114, 97, 114, 121], [119, 105, 100, 116, 104], [114, 101, 97, 108, 95, 100, 105, 103, 105, 116, 115], [100, 111, 117, 98, 108, 101, 95, 100, 105, 103, 105, 116, 115], [116, 111, 112, 95, 101, 120, 112, 111, 110, 101, 110, 116], [99, 111, 110, 116, 105, 110, 117, 97, 116, 105, 111, 110, 115], [99, 111, 108, 117, 109, 110, 115]]
noncomputable def methNo (K : Nat) (nm : List Nat) : Option Addr := if K = 1002 then (if nm = [108, 111, 97, 100] then some 985 else if nm = [115, 116, 111, 114, 101] then some 992 else none) else none
noncomputable def clsNos : List Nat := [1002, 1093, 1195]
noncomputable def attrop (u : AV) (n : List Nat) (σ : St) : Option AV := objV (fun i => instV (fun C d => if clsNos.contains C = true ∧ attrNames.contains n = true then attsV (fun es => look n es) σ[d]? else none) σ[i]?) u

noncomputable def isTup : AV → Option Bool
  | .tup _ => some true
  | .str _ => some false
  | .none => some false
  | _ => none

theorem oneB_inv {f : AV → Prop} : ∀ {l : List AV}, oneB f l → ∃ u, l = [u] ∧ f u
  | [u], h => ⟨u, rfl, h⟩
theorem twoB_inv {f : AV → AV → Prop} : ∀ {l : List AV}, twoB f l → ∃ u v, l = [u, v] ∧ f u v
  | [u, v], h => ⟨u, v, rfl, h⟩
noncomputable def lenB (σ : St) (Q : KE) : AV → Prop
  | .str s => s.length ≤ 16777216 ∧ Q (.int s.length) σ
  | .tup l => l.length ≤ 16777216 ∧ Q (.int l.length) σ
  | .lst l => l.length ≤ 16777216 ∧ Q (.int l.length) σ
  | .obj i => listB (fun l => l.length ≤ 16777216 ∧ Q (.int l.length) σ) σ[i]?
  | _ => False
noncomputable def extL (f : Int → List Int → Int) (σ : St) (Q : KE) : Option (List Int) → Prop
  | some (a :: r) => r.length ≤ 1000 ∧ Q (.int (f a r)) σ
  | _ => False
noncomputable def extB (f : Int → List Int → Int) (g : Int → Int → Int) (σ : St) (Q : KE) : List AV → Prop
  | [u] => objB (fun i => listB (fun l => extL f σ Q (isInts l)) σ[i]?) u
  | [u, v] => twoI u v fun a b => Q (.int (g a b)) σ
  | _ => False
noncomputable def chrB (f : Nat → Prop) : List Nat → Prop
  | [c] => f c
  | _ => False
noncomputable def bicall (b : BI) (as : List AV) (σ : St) (Q : KE) : Prop := match b with
  | .len => oneB (lenB σ Q) as
  | .abs => oneB (intB fun a => Q (.int (a.natAbs : Int)) σ) as
  | .max => extB maxI max σ Q as
  | .min => extB minI min σ Q as
  | .chr => oneB (intB fun i => 0 ≤ i ∧ i ≤ 1114111 ∧ Q (.str [i.toNat]) σ) as
  | .ord => oneB (strB (chrB fun c => Q (.int c) σ)) as
  | .divmod => twoB (fun u v => twoI u v fun a b => b ≠ 0 ∧ a.natAbs < 2 ^ 62 ∧ Q (.tup [.int (a.fdiv b), .int (a.fmod b)]) σ) as
  | .list => oneB (strB fun s => s.length ≤ 1000 ∧ Q (.lst (s.map fun c => .str [c])) σ) as
  | .dict => oneB (objB fun i => dictB (fun es => es.length ≤ 1000 ∧ Q (.obj σ.length) (σ ++ [.dict es])) σ[i]?) as
  | _ => False

noncomputable def joinB (σ : St) (Q : KE) : Option (List (List Nat)) → Prop
  | some ss => (ss.flatten).length ≤ 1000000 ∧ Q (.str ss.flatten) σ
  | none => False
noncomputable def nilB (f : Prop) : List Nat → Prop
  | [] => f
  | _ => False
noncomputable def methop (m : MN) (u : AV) (as : List AV) (σ : St) (Q : KE) : Prop := match m with
  | .append => oneB (fun v => objB (fun i => listB (fun l => l.length ≤ 1000000 ∧ Q .none (σ.set i (.list (l ++ [v])))) σ[i]?) u) as
  | .find => oneB (strB fun t => strB (fun s => Q (.int (Txt.find ⟨s.toArray⟩ ⟨t.toArray⟩)) σ) u) as
  | .join => oneB (lstB fun l => strB (nilB (joinB σ Q (isStrs l))) u) as
  | .get => oneB (strB fun k => objB (fun i => dictB (fun es => Q ((look k es).getD .none) σ) σ[i]?) u) as
  | .user _ => False
noncomputable def methPre (m : MN) (u : AV) (σ : St) : Prop := match m with
  | .append => objB (fun i => listB (fun _ => True) σ[i]?) u
  | .find => strB (fun _ => True) u
  | .join => strB (fun s => nilB True s) u
  | .get => objB (fun i => dictB (fun _ => True) σ[i]?) u
  | .user _ => False

noncomputable def seqL {α : Type} (f : α → St → KE → Prop) : List α → St → (List AV → St → Prop) → Prop
  | [], σ, Q => Q [] σ
  | e :: es, σ, Q => f e σ fun v σ' => seqL f es σ' fun vs σ'' => Q (v :: vs) σ''

/-- a comparison's chain, given the way of a single -/
noncomputable def cmpL (f : X → St → KE → Prop) : AV → List CmpOp → List X → St → (Bool → St → Prop) → Prop
  | v, [op], [b], σ, Q => f b σ fun u σ' => osB (fun c => Q c σ') (cmpop op v u σ')
  | v, op :: ops, b :: bs, σ, Q => f b σ fun u σ' => osB (fun c => sel c (cmpL f u ops bs σ' Q) (Q false σ')) (cmpop op v u σ')
  | _, _, _, _, _ => False

noncomputable def andL (t : X → St → (Bool → St → Prop) → Prop) : List X → St → (Bool → St → Prop) → Prop
  | [], σ, Q => Q true σ
  | e :: es, σ, Q => t e σ fun b σ' => sel b (andL t es σ' Q) (Q false σ')
noncomputable def orL (t : X → St → (Bool → St → Prop) → Prop) : List X → St → (Bool → St → Prop) → Prop
  | [], σ, Q => Q false σ
  | e :: es, σ, Q => t e σ fun b σ' => sel b (Q true σ') (orL t es σ' Q)

noncomputable def boolL (f : X → St → KE → Prop) (isAnd : Bool) : List X → St → KE → Prop
  | [], _, _ => False
  | [e], σ, Q => f e σ Q
  | e :: es, σ, Q => f e σ fun v σ' => osB (fun b => sel (b == isAnd) (boolL f isAnd es σ' Q) (Q v σ')) (truth v)

section
variable {α : Type} {a : AV} {r : α}
theorem no_some {P : Prop} (h : (none : Option α) = some r) : P := nomatch h
theorem obind_inv {β : Type} {o : Option β} {f : β → Option α} (h : o.bind f = some r) : ∃ x, o = some x ∧ f x = some r := by
  cases o with
  | none => exact no_some h
  | some x => exact ⟨x, rfl, h⟩
theorem osB_inv {f : α → Prop} {o : Option α} (h : osB f o) : ∃ a, o = some a ∧ f a := by
  cases o with
  | none => exact h.elim
  | some a => exact ⟨a, rfl, h⟩
theorem osB_i {f : α → Prop} {o : Option α} {a' : α} (e : o = some a') (h : f a') : osB f o := by rw [e]; exact h
theorem asInt_inv {i} (h : asInt a = some i) : a = .int i := by
  cases a <;> first | exact no_some h | exact congrArg AV.int (Option.some.inj h)
theorem asStr_inv {i} (h : asStr a = some i) : a = .str i := by
  cases a <;> first | exact no_some h | exact congrArg AV.str (Option.some.inj h)
theorem asLst_inv {i} (h : asLst a = some i) : a = .lst i := by
  cases a <;> first | exact no_some h | exact congrArg AV.lst (Option.some.inj h)
theorem asObj_inv {i} (h : asObj a = some i) : a = .obj i := by
  cases a <;> first | exact no_some h | exact congrArg AV.obj (Option.some.inj h)
theorem asBool_inv {i} (h : asBool a = some i) : a = .bool i := by
  cases a <;> first | exact no_some h | exact congrArg AV.bool (Option.some.inj h)
theorem asList_inv {o : AO} {i} (h : asList o = some i) : o = .list i := by
  cases o <;> first | exact no_some h | exact congrArg AO.list (Option.some.inj h)
theorem asDict_inv {o : AO} {i} (h : asDict o = some i) : o = .dict i := by
  cases o <;> first | exact no_some h | exact congrArg AO.dict (Option.some.inj h)
theorem asInst_inv {o : AO} {i} (h : asInst o = some i) : o = .inst i.1 i.2 := by
  cases o <;> first | exact no_some h | (obtain rfl := Option.some.inj h; rfl)
theorem asAtts_inv {o : AO} {i} (h : asAtts o = some i) : o = .attrs i := by
  cases o <;> first | exact no_some h | exact congrArg AO.attrs (Option.some.inj h)
theorem objB_inv {f} (h : objB f a) : ∃ i, a = .obj i ∧ f i :=
  let ⟨i, e, h⟩ := osB_inv h; ⟨i, asObj_inv e, h⟩
theorem listB_inv {f} {o : Option AO} (h : listB f o) : ∃ l, o = some (.list l) ∧ f l :=
  let ⟨l, e, h⟩ := osB_inv h; let ⟨_, e, e'⟩ := obind_inv e; ⟨l, asList_inv e' ▸ e, h⟩
theorem dictB_inv {f} {o : Option AO} (h : dictB f o) : ∃ l, o = some (.dict l) ∧ f l :=
  let ⟨l, e, h⟩ := osB_inv h; let ⟨_, e, e'⟩ := obind_inv e; ⟨l, asDict_inv e' ▸ e, h⟩
theorem instB_inv {f} {o : Option AO} (h : instB f o) : ∃ C d, o = some (.inst C d) ∧ f C d :=
  let ⟨l, e, h⟩ := osB_inv h; let ⟨_, e, e'⟩ := obind_inv e; ⟨l.1, l.2, asInst_inv e' ▸ e, h⟩
theorem attsB_inv {f} {o : Option AO} (h : attsB f o) : ∃ l, o = some (.attrs l) ∧ f l :=
  let ⟨l, e, h⟩ := osB_inv h; let ⟨_, e, e'⟩ := obind_inv e; ⟨l, asAtts_inv e' ▸ e, h⟩
theorem listV_inv {f : List AV → Option α} {o : Option AO} (h : listV f o = some r) : ∃ l, o = some (.list l) ∧ f l = some r :=
  let ⟨l, e, h⟩ := obind_inv h; let ⟨_, e, e'⟩ := obind_inv e; ⟨l, asList_inv e' ▸ e, h⟩
theorem dictV_inv {f : List (List Nat × AV) → Option α} {o : Option AO} (h : dictV f o = some r) : ∃ l, o = some (.dict l) ∧ f l = some r :=
  let ⟨l, e, h⟩ := obind_inv h; let ⟨_, e, e'⟩ := obind_inv e; ⟨l, asDict_inv e' ▸ e, h⟩
theorem instV_inv {f : Addr → Nat → Option α} {o : Option AO} (h : instV f o = some r) : ∃ C d, o = some (.inst C d) ∧ f C d = some r :=
  let ⟨l, e, h⟩ := obind_inv h; let ⟨_, e, e'⟩ := obind_inv e; ⟨l.1, l.2, asInst_inv e' ▸ e, h⟩
theorem attsV_inv {f : List (List Nat × AV) → Option α} {o : Option AO} (h : attsV f o = some r) : ∃ l, o = some (.attrs l) ∧ f l = some r :=
  let ⟨l, e, h⟩ := obind_inv h; let ⟨_, e, e'⟩ := obind_inv e; ⟨l, asAtts_inv e' ▸ e, h⟩
theorem guardO_inv {p : Prop} [Decidable p] {b : α} (h : guardO p b = some r) : p ∧ b = r := by
  unfold guardO at h
  by_cases hp : p
  · rw [if_pos hp] at h; exact ⟨hp, Option.some.inj h⟩
  · rw [if_neg hp] at h; exact no_some h
end

/-- the items of what is looped over -/
noncomputable def itemsOf : AV → St → Option (List AV)
  | .lst l, _ => some l
  | _, _ => none

noncomputable def rngL (n : Nat) : List AV := (List.range n).map fun i => AV.int (Int.ofNat i)
noncomputable def enmL (l : List AV) : List AV := l.mapIdx fun i v => AV.tup [.int (Int.ofNat i), v]

/-- what is looped over -/
noncomputable def srcE (f : X → St → KE → Prop) : X → St → (List AV → St → Prop) → Prop
  | .bcall .range [e], σ, Q => f e σ fun v σ' => intB (fun n => 0 ≤ n ∧ n ≤ 100000 ∧ Q (rngL n.toNat) σ') v
  | .bcall .enumerate _, _, _ => False
  | e, σ, Q => f e σ fun v σ' => lstB (fun l => l.length ≤ 100000 ∧ Q l σ') v

noncomputable def keepL {α : Type} (fs : List (List Nat)) : List (List Nat × α) → List (List Nat × α)
  | [] => []
  | (y, v) :: r => if fs.contains y then (y, v) :: keepL fs r else keepL fs r
noncomputable def compL (body : AV → St → KE → Prop) : List AV → St → (List AV → St → Prop) → Prop
  | [], σ, Q => Q [] σ
  | v :: vs, σ, Q => body v σ fun u σ' => compL body vs σ' fun us σ'' => Q (u :: us) σ''

noncomputable def tupB : X → Bool
  | .bi b => decide (b = .tuple)
  | _ => false
noncomputable def instL : List X → Option X
  | [a, y] => if tupB y = true then some a else none
  | _ => none
noncomputable def instArg : BI → List X → Option X
  | .isinstance, xs => instL xs
  | _, _ => none

mutual
noncomputable def evE (C : Ctr) (ex : St → Prop) : Nat → Loc → X → St → KE → Prop
  | 0, _, _, _, _ => False
  | n + 1, ρ, x, σ, Q => match x with
    | .const v => Q v σ
    | .bi _ => False
    | .name x => osB (fun v => Q v σ) (look x ρ)
    | .tup es => seqL (evE C ex n ρ) es σ fun vs σ' => vs.length ≤ 1000 ∧ Q (.tup vs) σ'
    | .lst [] => Q (.obj σ.length) (σ ++ [.list []])
    | .lst es => seqL (evE C ex n ρ) es σ fun vs σ' => vs.length ≤ 1000 ∧ Q (.lst vs) σ'
    | .dict es => seqL (fun p => evE C ex n ρ p.2) es σ fun vs σ' => Q (.obj σ'.length) (σ' ++ [.dict ((es.map (·.1)).zip vs)])
    | .bin op a b => evE C ex n ρ a σ fun u σ' => evE C ex n ρ b σ' fun v σ'' => binop op u v σ'' Q
    | .un op a => evE C ex n ρ a σ fun u σ' => osB (fun v => Q v σ') (unop op u)
    | .cmp a ops bs => evE C ex n ρ a σ fun u σ' => cmpL (evE C ex n ρ) u ops bs σ' fun b σ'' => Q (.bool b) σ''
    | .bool op es => boolL (evE C ex n ρ) (op == .And) es σ Q
    | .ite c a b => evT C ex n ρ c σ fun t σ' => sel t (evE C ex n ρ a σ' Q) (evE C ex n ρ b σ' Q)
    | .sub a i => evE C ex n ρ a σ fun u σ' => evE C ex n ρ i σ' fun v σ'' => osB (fun r => Q r σ'') (subop u v σ'')
    | .slc a lo hi => evE C ex n ρ a σ fun u σ' => evO C ex n ρ lo σ' fun l σ₁ => evO C ex n ρ hi σ₁ fun h σ'' => osB (fun r => Q r σ'') (slcop u l h σ'')
    | .attr a nm => evE C ex n ρ a σ fun u σ' => osB (fun r => Q r σ') (attrop u nm σ')
    | .call f as => evE C ex n ρ f σ fun u σ' => match u with
      | .con a => seqL (evE C ex n ρ) as σ' fun vs σ'' => C (.top a) vs σ'' ex Q
      | .clo c => seqL (evE C ex n ρ) as σ' fun vs σ'' => C (.clo c) vs σ'' ex Q
      | _ => False
    | .bcall b as => match instArg b as with
      | some a => evE C ex n ρ a σ fun u σ' => osB (fun b => Q (.bool b) σ') (isTup u)
      | none => seqL (evE C ex n ρ) as σ fun vs σ' => bicall b vs σ' Q
    | .meth a (.user nm) as => evE C ex n ρ a σ fun u σ' => objB (fun i => instB (fun K d => attsB (fun es => osB (fun f => (look nm es).isNone = true ∧ seqL (evE C ex n ρ) as σ' fun vs σ'' => C (.top f) (u :: vs) σ'' ex Q) (methNo K nm)) σ'[d]?) σ'[i]?) u
    | .meth a m as => evE C ex n ρ a σ fun u σ' => methPre m u σ' ∧ seqL (evE C ex n ρ) as σ' fun vs σ'' => methop m u vs σ'' Q
    | .comp e x fs it => srcE (evE C ex n ρ) it σ fun items σ' => items.length ≤ 1000 ∧ compL (fun v σ₁ K => evE C ex n ((x, v) :: keepL fs ρ) e σ₁ K) items σ' fun vs σ'' => Q (.lst vs) σ''
noncomputable def evO (C : Ctr) (ex : St → Prop) : Nat → Loc → Option X → St → (Option AV → St → Prop) → Prop
  | 0, _, _, _, _ => False
  | n + 1, ρ, x, σ, Q => match x with
    | none => Q none σ
    | some a => evE C ex n ρ a σ fun v σ' => Q (some v) σ'
noncomputable def evT (C : Ctr) (ex : St → Prop) : Nat → Loc → X → St → (Bool → St → Prop) → Prop
  | 0, _, _, _, _ => False
  | n + 1, ρ, x, σ, Q => match x with
    | .un .Not a => evT C ex n ρ a σ fun b σ' => Q (!b) σ'
    | .bool .And es => andL (evT C ex n ρ) es σ Q
    | .bool .Or es => orL (evT C ex n ρ) es σ Q
    | .cmp a ops bs => evE C ex n ρ a σ fun u σ' => cmpL (evE C ex n ρ) u ops bs σ' Q
    | .ite _ _ _ => False
    | x => evE C ex n ρ x σ fun v σ' => osB (fun b => Q b σ') (truth v)
end

noncomputable def loopL (body : AV → Loc → St → (Loc → St → Prop) → Prop) : List AV → Loc → St → (Loc → St → Prop) → Prop
  | [], ρ, σ, N => N ρ σ
  | v :: vs, ρ, σ, N => body v ρ σ fun ρ' σ' => loopL body vs ρ' σ' N
noncomputable def whlL (turn : Loc → St → (Loc → St → Prop) → (Loc → St → Prop) → Prop) : Nat → Loc → St → (Loc → St → Prop) → Prop
  | 0, _, _, _ => False
  | k + 1, ρ, σ, N => turn ρ σ (fun ρ' σ' => whlL turn k ρ' σ' N) N

noncomputable def bindN : List (List Nat) → List AV → Loc → Option Loc
  | [], [], ρ => some ρ
  | x :: xs, v :: vs, ρ => bindN xs vs ((x, v) :: ρ)
  | _, _, _ => none

noncomputable def asTupA : AV → Option (List AV)
  | .tup l => some l
  | _ => none
noncomputable def parts : AV → Option (List AV)
  | .tup l => some l
  | .lst l => some l
  | _ => none

noncomputable def setO (i : Nat) (v : AV) (σ : St) (Q : St → Prop) : AV → Prop
  | .str k => dictB (fun es => es.length ≤ 1000 ∧ Q (σ.set i (.dict (dput k v es)))) σ[i]?
  | .int k => listB (fun l => 0 ≤ k ∧ k < l.length ∧ k < 1000000 ∧ Q (σ.set i (.list (l.set k.toNat v)))) σ[i]?
  | _ => False
noncomputable def setop (u k v : AV) (σ : St) (Q : St → Prop) : Prop := objB (fun i => setO i v σ Q k) u
noncomputable def seta (u : AV) (nm : List Nat) (v : AV) (σ : St) (Q : St → Prop) : Prop :=
  objB (fun i => instB (fun C d => attsB (fun es => clsNos.contains C = true ∧ attrNames.contains nm = true ∧ es.length ≤ 900 ∧ Q (σ.set d (.attrs (dput nm v es)))) σ[d]?) σ[i]?) u

noncomputable def evA (C : Ctr) (ex : St → Prop) (n : Nat) : XT → AV → Loc → St → (Loc → St → Prop) → Prop
  | .name x, v, ρ, σ, N => N ((x, v) :: ρ) σ
  | .tup xs, v, ρ, σ, N => osB (fun vs => osB (fun ρ' => N ρ' σ) (bindN xs vs ρ)) (parts v)
  | .rtup xs, v, ρ, σ, N => osB (fun vs => osB (fun ρ' => N ρ' σ) (bindN xs.reverse vs.reverse ρ)) (asTupA v)
  | .sub a i, v, ρ, σ, N => evE C ex n ρ a σ fun u σ₁ => evE C ex n ρ i σ₁ fun k σ₂ => setop u k v σ₂ (N ρ)
  | .attr a nm, v, ρ, σ, N => evE C ex n ρ a σ fun u σ₁ => seta u nm v σ₁ (N ρ)

noncomputable def isVal : AV → Bool
  | .none => true
  | .int _ => true
  | .bool _ => true
  | .str _ => true
  | _ => false

noncomputable def isPin (a : Option AO) (es : List (List Nat × AV)) (o : Obj) : Prop := a = some (.pin es o)

mutual
noncomputable def evS (C : Ctr) (ex : St → Prop) (R : KE) : Nat → XS → Loc → St → (Loc → St → Prop) → Prop
  | 0, _, _, _, _ => False
  | n + 1, st, ρ, σ, N => match st with
    | .asg t e => evE C ex n ρ e σ fun v σ' => evA C ex n t v ρ σ' N
    | .aug x op e => osB (fun u => evE C ex n ρ e σ fun v σ' => osB (fun r => N ((x, r) :: ρ) σ') (augop op u v)) (look x ρ)
    | .augSub a i op e => evE C ex n ρ a σ fun u σ₁ => evE C ex n ρ i σ₁ fun k σ₂ => strB (fun _ => osB (fun old => evE C ex n ρ e σ₂ fun v σ₃ => osB (fun r => setop u k r σ₃ (N ρ)) (augop op old v)) (subop u k σ₂)) k
    | .ite c a b => evT C ex n ρ c σ fun t σ' => sel t (evSs C ex R n a ρ σ' N) (evSs C ex R n b ρ σ' N)
    | .ret e => evE C ex n ρ e σ R
    | .loop x it b => (srcE (evE C ex n ρ) it σ fun items σ' => loopL (fun v ρ₁ σ₁ K => evSs C ex R n b ((x, v) :: ρ₁) σ₁ K) items ρ σ' N) ∨
        (evE C ex n ρ it σ fun v σ' => objB (fun j => dictB (fun es => ∀ o, loopL (fun v ρ₁ σ₁ K => isPin σ₁[j]? es o ∧ evSs C ex R n b ((x, v) :: ρ₁) σ₁ K) (es.map fun p => .str p.1) ρ (σ'.set j (.pin es o)) fun ρ₂ σ₂ => isPin σ₂[j]? es o ∧ N ρ₂ (σ₂.set j (.dict es))) σ'[j]?) v)
    | .whl c b => ∃ k, whlL (fun ρ₁ σ₁ K N' => evT C ex n ρ₁ c σ₁ fun t σ₂ => sel t (evSs C ex R n b ρ₁ σ₂ K) (N' ρ₁ σ₂)) k ρ σ N
    | .raise _ => ex σ
    | .expr e => evE C ex n ρ e σ fun v σ' => isVal v = true ∧ N ρ σ'
noncomputable def evSs (C : Ctr) (ex : St → Prop) (R : KE) : Nat → List XS → Loc → St → (Loc → St → Prop) → Prop
  | 0, _, _, _, _ => False
  | n + 1, sts, ρ, σ, N => match sts with
    | [] => N ρ σ
    | st :: rest => evS C ex R n st ρ σ fun ρ' σ' => evSs C ex R n rest ρ' σ' N
end

/-! ## calls -/
mutual
noncomputable def bndA (k : Nat) : AV → Bool
  | .obj i => decide (i < k)
  | .tup l => bndL k l
  | .lst l => bndL k l
  | .clo l => bndL k l
  | _ => true
noncomputable def bndL (k : Nat) : List AV → Bool
  | [] => true
  | a :: l => bndA k a && bndL k l
end
noncomputable def bndE (k : Nat) : List (List Nat × AV) → Bool
  | [] => true
  | (_, a) :: l => bndA k a && bndE k l
noncomputable def bndO (k : Nat) : AO → Bool
  | .list l => bndL k l
  | .dict es => bndE k es
  | .inst _ d => decide (d < k)
  | .attrs es => bndE k es
  | .pin es _ => bndE k es
/-- what is given back: later things may be let go -/
noncomputable def Done (σ : St) (Q : KE) (v : AV) (σ' : St) : Prop := Q v σ' ∨ ∃ k, σ.length ≤ k ∧ bndA k v = true ∧ (∀ a ∈ σ'.take k, bndO k a = true) ∧ Q v (σ'.take k)
noncomputable def DoneX (σ : St) (ex : St → Prop) (σ' : St) : Prop := ex σ' ∨ ∃ k, σ.length ≤ k ∧ (∀ a ∈ σ'.take k, bndO k a = true) ∧ ex (σ'.take k)

/-- a def's call, by its words -/
noncomputable def runF (C : Ctr) (ps : List (List Nat)) (body : List XS) (args : List AV) (σ : St) (ex : St → Prop) (Q : KE) : Prop :=
  args.length = ps.length ∧ ∃ k, evSs C (DoneX σ ex) (Done σ Q) k body (ps.zip args) σ fun _ σ' => Done σ Q .none σ'


noncomputable abbrev Tab := Addr → Option (List (List Nat) × List XS)
noncomputable def Cn0 (T : Tab) (Sp : Ctr → Ctr) : Nat → Ctr
  | 0 => fun _ _ _ _ _ => False
  | n + 1 => fun fn args σ ex Q => match fn with
    | .top a => match T a with
      | some (ps, b) => runF (Cn0 T Sp n) ps b args σ ex Q
      | none => Sp (Cn0 T Sp n) (.top a) args σ ex Q
    | .clo l => Sp (Cn0 T Sp n) (.clo l) args σ ex Q
@[irreducible] noncomputable def Cn (T : Tab) (Sp : Ctr → Ctr) (n : Nat) : Ctr := Cn0 T Sp n
theorem Cn_zero {T : Tab} {Sp : Ctr → Ctr} {fn args σ ex Q} : Cn T Sp 0 fn args σ ex Q = False := by unfold Cn; rfl
theorem Cn_top {T : Tab} {Sp : Ctr → Ctr} {n : Nat} {a args σ ex Q} : Cn T Sp (n + 1) (.top a) args σ ex Q = match T a with
      | some (ps, b) => runF (Cn T Sp n) ps b args σ ex Q
      | none => Sp (Cn T Sp n) (.top a) args σ ex Q := by unfold Cn; rfl
theorem Cn_clo {T : Tab} {Sp : Ctr → Ctr} {n : Nat} {l args σ ex Q} : Cn T Sp (n + 1) (.clo l) args σ ex Q = Sp (Cn T Sp n) (.clo l) args σ ex Q := by unfold Cn; rfl

theorem look_cons {α : Type} (x y : List Nat) (v : α) (r) : look x ((y, v) :: r) = if x = y then some v else look x r := rfl
theorem dput_cons {α : Type} (x y : List Nat) (v u : α) (r) : dput x v ((y, u) :: r) = if x = y then (y, v) :: r else (y, u) :: dput x v r := rfl
theorem keepL_cons {α : Type} (fs : List (List Nat)) (y : List Nat) (v : α) (r) : keepL fs ((y, v) :: r) = if fs.contains y then (y, v) :: keepL fs r else keepL fs r := rfl
theorem loopL_cons {body : AV → Loc → St → (Loc → St → Prop) → Prop} {v : AV} {r : List AV} {ρ : Loc} {σ : St} {N} : loopL body (v :: r) ρ σ N = body v ρ σ fun ρ' σ' => loopL body r ρ' σ' N := rfl
theorem compL_cons {body : AV → St → KE → Prop} {v : AV} {r : List AV} {σ : St} {Q} : compL body (v :: r) σ Q = body v σ fun u σ' => compL body r σ' fun us σ'' => Q (u :: us) σ'' := rfl
theorem look_same {α : Type} {x y : List Nat} {v av : α} {r ρ : List (List Nat × α)} (h : look x ((y, v) :: r) = some av) (h1 : look x r = some av → look x ρ = some av) : look x ((y, v) :: ρ) = some av := by
  rw [look_cons] at h ⊢
  by_cases e : x = y
  · rw [if_pos e] at h ⊢; exact h
  · rw [if_neg e] at h ⊢; exact h1 h
theorem look_up {α : Type} {x y : List Nat} {v av : α} {r ρ : List (List Nat × α)} (h : look x ((y, v) :: r) = some av) (h0 : look y ρ = some v) (h1 : look x r = some av → look x ρ = some av) : look x ρ = some av := by
  rw [look_cons] at h
  by_cases e : x = y
  · rw [if_pos e] at h; rw [e, h0]; exact h
  · rw [if_neg e] at h; exact h1 h
theorem sel_d {p : Prop} [Decidable p] {P Q : Prop} (h1 : p → P) (h2 : ¬ p → Q) : sel (decide p) P Q := sel_of (fun h => h1 (of_decide_eq_true h)) (fun h => h2 (of_decide_eq_false h))
theorem sel_nd {p : Prop} [Decidable p] {P Q : Prop} (h1 : ¬ p → P) (h2 : p → Q) : sel (!decide p) P Q := sel_of (fun h => h1 (by simpa using h)) (fun h => h2 (by simpa using h))
theorem sel_rt {b : Bool} {P Q : Prop} (e : b = true) (h : P) : sel b P Q := by subst e; exact h
theorem sel_rf {b : Bool} {P Q : Prop} (e : b = false) (h : Q) : sel b P Q := by subst e; exact h
theorem le_1 : (1 : Int) ≤ 100000 := by decide
theorem fd10 (a : Int) : a.fdiv 10 = a / 10 := Int.fdiv_eq_ediv_of_nonneg _ (by decide)
theorem fm10 (a : Int) : a.fmod 10 = a % 10 := Int.fmod_eq_emod_of_nonneg _ (by decide)
theorem fdG (a : Int) : a.fdiv 1000000000 = a / 1000000000 := Int.fdiv_eq_ediv_of_nonneg _ (by decide)
end
section
open PySem PySem.W PyProof.Rows PySem.Calls

/-- what stands for the whole law -/
structure Cx where
  prog : Program
  w : World
  K : Frag
  p : Program
  loose : List Str
  mean : ExcName → Option Value
  mg : Str → Option Value
  mb : Str → Option Value
  base : Heap
  CR : CloRel
  RF : Addr
  gens : Array GenState
  drawn : Drawn
  os : OsState

structure Fm (c : Cx) (A₀ A : Around) (outer : List Env) (env : Env) (h₀ : Heap) (L : Addr) : Prop where
  B : Below A₀ c.base outer h₀
  X : c.K.In h₀
  T : Top c.p c.loose c.mean c.mg c.mb h₀
  fr : A.frames = some (env :: outer)
  hf : env.frame = some L
  hk : env.scope.kind = .function
  lo : env.locals = L
  gl : env.globals = mainGlobals
  bi : env.builtins = builtinsNs
  hd : A.handled = none

structure Same (c : Cx) (s : Shared) : Prop where
  gens : s.gens = c.gens
  drawn : s.drawn = c.drawn
  os : s.os = c.os
theorem Same.at {c s h tk} (x : Same c s) : Same c { s with heap := h, toks := tk } := ⟨x.1, x.2, x.3⟩
theorem Same.ath {c s h} (x : Same c s) : Same c { s with heap := h } := ⟨x.1, x.2, x.3⟩

noncomputable def led (W : GW) (Hid : Led) : Led := W.Mu ++ (Hid ++ W.I)

structure Lg (c : Cx) (Hid : Led) (W : GW) (σ : St) : Prop where
  nd : ((led W Hid).map (·.1)).Nodup
  hr : HR c.CR c.prog c.w W σ W.Mu
  g : W.G = c.base
  cm : CloMono c.CR
  ns : ∀ p ∈ W.Mu, p.2.cls = .type "list" ∨ (p.1 == sysModules) = false

structure Rel (c : Cx) (h₀ : Heap) (L : Addr) (m : Str → Option Value) (Hid : Led) (W : GW) (σ : St) (s : Shared) : Prop extends Lg c Hid W σ where
  F : Fr h₀ L s.heap m
  N : News h₀ L s.heap (led W Hid)
  sm : Same c s

section
variable {c : Cx} {A₀ A : Around} {outer : List Env} {env : Env} {h₀ : Heap} {L : Addr} {m : Str → Option Value} {Hid : Led} {W W' : GW} {σ : St} {s : Shared}

theorem Rel.tok (R : Rel c h₀ L m Hid W σ s) (t : Nat) : Rel c h₀ L m Hid W σ { s with toks := t } := ⟨R.toLg, R.F, R.N, R.sm.1, R.sm.2, R.sm.3⟩
/-- the heap has changed, the ledger has not -/
theorem Rel.to (R : Rel c h₀ L m Hid W σ s) {h' : Heap} {tk : Nat} {m' : Str → Option Value} (F : Fr h₀ L h' m') (N : News h₀ L h' (led W Hid)) : Rel c h₀ L m' Hid W σ { s with heap := h', toks := tk } :=
  ⟨R.toLg, F, N, R.sm.1, R.sm.2, R.sm.3⟩

theorem led_imm {a o} : ∀ p ∈ led { W with I := (a, o) :: W.I } Hid, p = (a, o) ∨ p ∈ led W Hid := by
  intro p hp
  simp only [led, List.mem_append, List.mem_cons] at hp ⊢
  rcases hp with h | h | rfl | h <;> simp [*]


theorem nd_imm {a : Addr} {o : Obj} (nd : ((led W Hid).map (·.1)).Nodup) (ha : ∀ p ∈ led W Hid, p.1 ≠ a) : ((led { W with I := (a, o) :: W.I } Hid).map (·.1)).Nodup := by
  have hp : (led { W with I := (a, o) :: W.I } Hid).Perm ((a, o) :: led W Hid) := by
    simp only [led]
    rw [← List.append_assoc, ← List.append_assoc]
    exact List.perm_middle
  rw [(hp.map _).nodup_iff, List.map_cons, List.nodup_cons]
  exact ⟨fun h => by obtain ⟨p, hp, e⟩ := List.mem_map.mp h; exact ha p hp e, nd⟩
theorem nd_mut {a : Addr} {o : Obj} (nd : ((led W Hid).map (·.1)).Nodup) (ha : ∀ p ∈ led W Hid, p.1 ≠ a) : ((led { W with Mu := W.Mu ++ [(a, o)] } Hid).map (·.1)).Nodup := by
  have hp : (led { W with Mu := W.Mu ++ [(a, o)] } Hid).Perm ((a, o) :: led W Hid) := by
    simp only [led, List.append_assoc, List.cons_append, List.nil_append]
    exact List.perm_middle
  rw [(hp.map _).nodup_iff, List.map_cons, List.nodup_cons]
  exact ⟨fun h => by obtain ⟨p, hp, e⟩ := List.mem_map.mp h; exact ha p hp e, nd⟩

theorem mem_imm {a : Addr} {o : Obj} {p} (h : p ∈ led { W with I := (a, o) :: W.I } Hid) : p ∈ (a, o) :: led W Hid := by
  simp only [led, List.mem_append, List.mem_cons] at h ⊢
  rcases h with h | h | h | h <;> simp [*]
theorem mem_mut {a : Addr} {o : Obj} {p} (h : p ∈ led { W with Mu := W.Mu ++ [(a, o)] } Hid) : p ∈ (a, o) :: led W Hid := by
  simp only [led, List.mem_append, List.mem_cons, List.not_mem_nil, or_false] at h ⊢
  rcases h with (h | h) | h | h <;> simp [*]

theorem Rel.below (R : Rel c h₀ L m Hid W σ s) : ∀ p ∈ led W Hid, p.1 < s.heap.objs.size := fun p hp => Heap.lt_size (R.N p hp).1
theorem Rel.fresh (R : Rel c h₀ L m Hid W σ s) : ∀ p ∈ led W Hid, p.1 ≠ s.heap.objs.size := fun p hp => Nat.ne_of_lt (R.below p hp)
theorem Rel.notSys (R : Rel c h₀ L m Hid W σ s) (hl : h₀.NoLimit) : (s.heap.objs.size == sysModules) = false := by
  have h1 := modules_low hl
  have h2 := R.F.above
  have h3 := R.F.ns.lt
  simp only [beq_eq_false_iff_ne, ne_eq]
  intro e
  have : sysModules < s.heap.objs.size := Nat.lt_of_lt_of_le h1 (Nat.le_trans h2 (Nat.le_of_lt h3))
  rw [e] at this
  exact Nat.lt_irrefl _ this

theorem le_imm {x : Addr × Obj} : W.Le { W with I := x :: W.I } := ⟨rfl, ⟨[], (List.append_nil _).symm⟩, fun p h => List.mem_cons_of_mem _ h⟩
theorem le_mut {x : Addr × Obj} : W.Le { W with Mu := W.Mu ++ [x] } := ⟨rfl, ⟨[x.1], by simp [GW.ad]⟩, fun p h => h⟩

theorem Rel.imm (R : Rel c h₀ L m Hid W σ s) {D : Addr} {o : Obj} {h' : Heap} {tk : Nat} (F : Fr h₀ L h' m) (N : News h₀ L h' ((D, o) :: led W Hid)) (fr : ∀ p ∈ led W Hid, p.1 ≠ D) :
    Rel c h₀ L m Hid { W with I := (D, o) :: W.I } σ { s with heap := h', toks := tk } where
  nd := nd_imm R.nd fr
  hr := R.hr.mono R.cm le_imm
  g := R.g
  cm := R.cm
  ns := R.ns
  F := F
  N := fun p hp => N p (mem_imm hp)
  sm := ⟨R.sm.1, R.sm.2, R.sm.3⟩
theorem Rel.mut (R : Rel c h₀ L m Hid W σ s) {D : Addr} {o : Obj} {a : AO} {h' : Heap} {tk : Nat} (F : Fr h₀ L h' m) (N : News h₀ L h' ((D, o) :: led W Hid)) (fr : ∀ p ∈ led W Hid, p.1 ≠ D)
    (hs : o.cls = .type "list" ∨ (D == sysModules) = false) (ho : OR c.CR c.prog c.w { W with Mu := W.Mu ++ [(D, o)] } a o) :
    Rel c h₀ L m Hid { W with Mu := W.Mu ++ [(D, o)] } (σ ++ [a]) { s with heap := h', toks := tk } where
  nd := nd_mut R.nd fr
  hr := (R.hr.mono R.cm le_mut).snoc ho
  g := R.g
  cm := R.cm
  ns := fun p hp => by
    rcases List.mem_append.mp hp with hp | hp
    · exact R.ns p hp
    · rw [List.mem_singleton] at hp; subst hp; exact hs
  F := F
  N := fun p hp => N p (mem_mut hp)
  sm := ⟨R.sm.1, R.sm.2, R.sm.3⟩
theorem ne_of_lts {l : Led} {D : Addr} (h : ∀ p ∈ l, p.1 < D) : ∀ p ∈ l, p.1 ≠ D := fun p hp => Nat.ne_of_lt (h p hp)

/-! ### changing one -/
theorem updF_of {a : Addr} {o : Obj} : ∀ {l : Led} {i : Nat}, l[i]? = some (a, o) → (l.map (·.1)).Nodup → UpdF a o l (fun o' => l.set i (a, o'))
  | [], _, h, _ => by simp at h
  | p :: r, 0, h, nd => by
    simp only [List.getElem?_cons_zero, Option.some.injEq] at h
    subst h
    rw [List.map_cons, List.nodup_cons] at nd
    exact .head fun q hq e => nd.1 (List.mem_map.mpr ⟨q, hq, e⟩)
  | p :: r, i + 1, h, nd => by
    simp only [List.getElem?_cons_succ] at h
    rw [List.map_cons, List.nodup_cons] at nd
    refine .tail (fun e => nd.1 (List.mem_map.mpr ⟨(a, o), List.mem_of_getElem? h, e.symm⟩)) (updF_of h nd.2)
theorem upd_of {a : Addr} {o o' : Obj} : ∀ {l : Led} {i : Nat}, l[i]? = some (a, o) → (l.map (·.1)).Nodup → Upd a o o' l (l.set i (a, o'))
  | [], _, h, _ => by simp at h
  | p :: r, 0, h, nd => by
    simp only [List.getElem?_cons_zero, Option.some.injEq] at h
    subst h
    rw [List.map_cons, List.nodup_cons] at nd
    exact .head fun q hq e => nd.1 (List.mem_map.mpr ⟨q, hq, e⟩)
  | p :: r, i + 1, h, nd => by
    simp only [List.getElem?_cons_succ] at h
    rw [List.map_cons, List.nodup_cons] at nd
    refine .tail (fun e => nd.1 (List.mem_map.mpr ⟨(a, o), List.mem_of_getElem? h, e.symm⟩)) (upd_of h nd.2)

noncomputable def GW.upd (W : GW) (i : Nat) (a : Addr) (o : Obj) : GW := { W with Mu := W.Mu.set i (a, o) }
theorem set_map_fst {l : Led} {i : Nat} {a : Addr} {o o' : Obj} (h : l[i]? = some (a, o)) : (l.set i (a, o')).map (·.1) = l.map (·.1) := by
  apply List.ext_getElem?
  intro j
  simp only [List.getElem?_map, List.getElem?_set]
  by_cases e : i = j
  · subst e
    have hl := (List.getElem?_eq_some_iff.mp h).1
    simp only [if_pos hl, h, if_true]; rfl
  · simp [e]
theorem ad_upd {i : Nat} {a : Addr} {o o' : Obj} (h : W.Mu[i]? = some (a, o)) : (W.upd i a o').ad = W.ad := set_map_fst h
theorem le_upd {i : Nat} {a : Addr} {o o' : Obj} (h : W.Mu[i]? = some (a, o)) : W.Le (W.upd i a o') := ⟨rfl, ⟨[], by rw [ad_upd h, List.append_nil]⟩, fun p h => h⟩
theorem led_get {i : Nat} {p} (h : W.Mu[i]? = some p) : (led W Hid)[i]? = some p := by
  rw [led, List.getElem?_append_left (List.getElem?_eq_some_iff.mp h).1]; exact h
theorem led_upd {i : Nat} {a : Addr} {o o' : Obj} (h : W.Mu[i]? = some (a, o)) : led (W.upd i a o') Hid = (led W Hid).set i (a, o') := by
  rw [led, led, List.set_append_left _ _ (List.getElem?_eq_some_iff.mp h).1]; rfl
theorem Rel.updF (R : Rel c h₀ L m Hid W σ s) {i a o} (h : W.Mu[i]? = some (a, o)) : UpdF a o (led W Hid) (fun o' => led (W.upd i a o') Hid) := by
  have e : (fun o' => led (W.upd i a o') Hid) = fun o' => (led W Hid).set i (a, o') := funext fun o' => led_upd h
  rw [e]; exact updF_of (led_get h) R.nd
theorem Rel.updO (R : Rel c h₀ L m Hid W σ s) {i a o} (o' : Obj) (h : W.Mu[i]? = some (a, o)) : Upd a o o' (led W Hid) (led (W.upd i a o') Hid) := by
  rw [led_upd h]; exact upd_of (led_get h) R.nd
theorem Rel.put (R : Rel c h₀ L m Hid W σ s) {i : Nat} {a : Addr} {o o' : Obj} {ao : AO} {h' : Heap} {tk : Nat} (h : W.Mu[i]? = some (a, o)) (F : Fr h₀ L h' m) (N : News h₀ L h' (led (W.upd i a o') Hid))
    (hc : o'.cls = .type "list" ∨ o.cls ≠ .type "list") (ho : OR c.CR c.prog c.w (W.upd i a o') ao o') : Rel c h₀ L m Hid (W.upd i a o') (σ.set i ao) { s with heap := h', toks := tk } where
  nd := by rw [led_upd h, set_map_fst (led_get h)]; exact R.nd
  hr := (R.hr.mono R.cm (le_upd h)).set i ho
  g := R.g
  cm := R.cm
  ns := fun p hp => by
    rcases List.mem_or_eq_of_mem_set hp with hp | e
    · exact R.ns p hp
    · rw [e]
      rcases hc with hc | hc
      · exact .inl hc
      · exact .inr ((R.ns (a, o) (List.mem_of_getElem? h)).resolve_left hc)
  F := F
  N := N
  sm := ⟨R.sm.1, R.sm.2, R.sm.3⟩

/-- what is at a number -/
theorem Rel.at (R : Rel c h₀ L m Hid W σ s) {i : Nat} {a : AO} (h : σ[i]? = some a) : ∃ x o, W.Mu[i]? = some (x, o) ∧ OR c.CR c.prog c.w W a o ∧ (x, o) ∈ led W Hid ∧ s.heap.get? x = some o := by
  obtain ⟨⟨x, o⟩, h1, h2⟩ := R.hr.get h
  have hm : (x, o) ∈ led W Hid := List.mem_append_left _ (List.mem_of_getElem? h1)
  exact ⟨x, o, h1, h2, hm, (R.N _ hm).1⟩
theorem Rel.ref (R : Rel c h₀ L m Hid W σ s) {i : Nat} {v : Value} (h : VR c.CR W (.obj i) v) {a : AO} (ha : σ[i]? = some a) :
    ∃ x o, v = .ref x ∧ W.Mu[i]? = some (x, o) ∧ OR c.CR c.prog c.w W a o ∧ (x, o) ∈ led W Hid ∧ s.heap.get? x = some o := by
  obtain ⟨x, o, h1, h2⟩ := R.at ha
  cases h with
  | obj h =>
    rw [GW.ad, List.getElem?_map, h1] at h
    cases h
    exact ⟨x, o, rfl, h1, h2⟩
theorem Rel.seq (R : Rel c h₀ L m Hid W σ s) (B : c.base.StaysIn h₀) {ty a ws} (h : W.Seq ty a ws) : ∃ o n, s.heap.get? a = some o ∧ o.cls = .type ty ∧ o.data = .seq ws.toArray n := by
  obtain ⟨o, n, k, h1, h2⟩ := h
  refine ⟨o, n, ?_, h1, h2⟩
  rcases k with k | k
  · exact (R.N _ (List.mem_append_right _ (List.mem_append_right _ k))).1
  · rw [R.g] at k; exact R.F.keep _ _ (B _ _ k)
theorem Rel.isList (R : Rel c h₀ L m Hid W σ s) (B : c.base.StaysIn h₀) {a ws} (h : W.Seq "list" a ws) : s.heap.IsList a ws.toArray :=
  let ⟨o, n, h1, h2, h3⟩ := R.seq B h; ⟨o, h1, h2, n, h3⟩
theorem Rel.isTup (R : Rel c h₀ L m Hid W σ s) (B : c.base.StaysIn h₀) {a ws} (h : W.Seq "tuple" a ws) : IsTup s.heap a ws.toArray :=
  let ⟨o, n, h1, h2, h3⟩ := R.seq B h; ⟨o, h1, h2, n, h3⟩

/-! ### names -/
inductive NameAt (ev : Env) (L : Addr) (m : Str → Option Value) (ld : Led) (x : Str) (v : Value) : Prop
  | loc : ev.kindOf x = some .local → ev.locals = L → m x = some v → NameAt ev L m ld x v
  | com (o : Obj) (mc : Str → Option Value) : ev.kindOf x = some .local → (ev.locals, o) ∈ ld → (∀ h : Heap, h.get? ev.locals = some o → h.Ns ev.locals mc) → mc x = some v → NameAt ev L m ld x v
  | cell (k : Addr) (o : Obj) : (ev.kindOf x = some .cell ∨ ev.kindOf x = some .free ∧ (x == ("__classdict__" : Str)) = false) → ev.cells.lookup x = some k → (k, o) ∈ ld → o.data = .cell (some v) → NameAt ev L m ld x v
theorem NameAt.mono {ev : Env} {ld ld' : Led} {x v} (h : ∀ p ∈ ld, p ∈ ld') : NameAt ev L m ld x v → NameAt ev L m ld' x v
  | .loc a b e => .loc a b e
  | .com o mc a b e f => .com o mc a (h _ b) e f
  | .cell k o a b e f => .cell k o a b (h _ e) f
noncomputable def LocR (c : Cx) (ev : Env) (L : Addr) (m : Str → Option Value) (Hid : Led) (W : GW) (ρ : Loc) : Prop :=
  ∀ x av, look x ρ = some av → ∃ v, VR c.CR W av v ∧ NameAt ev L m (Hid ++ W.I) ⟨x.toArray⟩ v
theorem LocR.mono {ev : Env} {ρ : Loc} (hm : CloMono c.CR) (le : W.Le W') (h : LocR c ev L m Hid W ρ) : LocR c ev L m Hid W' ρ := fun x av e => by
  obtain ⟨v, h1, h2⟩ := h x av e
  exact ⟨v, h1.mono hm le, h2.mono fun p hp => (List.mem_append.mp hp).elim (List.mem_append_left _) fun q => List.mem_append_right _ (le.im _ q)⟩
theorem name_read {M : Model} {E : Value → Shared → Prop} {ev : Env} {x : Str} {v : Value} {pos : Pos} {Q : Value → Shared → Prop} (R : Rel c h₀ L m Hid W σ s) (hk : ev.scope.kind = .function) (h : NameAt ev L m (Hid ++ W.I) x v)
    (hd : (x == ("__debug__" : Str)) = false) (q : Q v s) : wpAny M A (eval (.Name x pos) ev) Q E s := by
  have hm : ∀ p ∈ Hid ++ W.I, s.heap.get? p.1 = some p.2 := fun p hp => (R.N p (List.mem_append_right _ hp)).1
  refine wpAny_Name ?_ hd
  cases h with
  | loc a b e => exact wpAny_loadName_local hk a (by rw [b]; exact R.F.ns) e q
  | com o mc a b e f => exact wpAny_loadName_local hk a (e _ (hm _ b)) f q
  | cell k o a b e f =>
    rcases a with a | ⟨a, a'⟩
    · exact wpAny_loadName_cell hk a b ⟨o, hm _ e, f⟩ q
    · exact wpAny_loadName_free hk a b ⟨o, hm _ e, f⟩ q a'

noncomputable def GlR (c : Cx) (gl : Str → Option GV) : Prop := ∀ x g, gl x = some g → match g with
  | .av a => ∃ v, nsIn c.K mainGlobals x = some (some v) ∧ ∀ W : GW, W.G = c.base → VR c.CR W a v
  | .bi b => x = b.name ∧ nsIn c.K mainGlobals x = some none

theorem BI.boot (b : BI) : bootBuiltins b.name = some b.val ∧ b.name ≠ ("__name__" : Str) ∧ (b.name == ("__debug__" : Str)) = false := by
  cases b <;> refine ⟨?_, by decide, by decide⟩ <;> first | exact Boot.«len» | exact Boot.«abs» | exact Boot.«max» | exact Boot.«min» | exact Boot.«chr» | exact Boot.«ord» | exact Boot.«divmod» | exact Boot.«isinstance» | exact Boot.«list» | exact Boot.«dict» | exact Boot.«tuple» | exact Boot.«range» | exact Boot.«enumerate»
theorem glob_read {M : Model} {E : Value → Shared → Prop} {ev : Env} {x : Str} {v : Value} {pos : Pos} {Q : Value → Shared → Prop} (f : Fm c A₀ A outer env h₀ L) (R : Rel c h₀ L m Hid W σ s) (hk : ev.scope.kind = .function) (hg : ev.globals = mainGlobals) (hx : ev.kindOf x = some .globalImplicit)
    (e : nsIn c.K mainGlobals x = some (some v)) (hd : (x == ("__debug__" : Str)) = false) (q : Q v s) : wpAny M A (eval (.Name x pos) ev) Q E s :=
  Name_function_global hk hx (loadGlobal_global (by rw [hg]; exact f.T.g.keeps R.F.keep) (mg_of f.X f.T.g e) q) hd
theorem bi_read {M : Model} {E : Value → Shared → Prop} {ev : Env} {b : BI} {pos : Pos} {Q : Value → Shared → Prop} (f : Fm c A₀ A outer env h₀ L) (R : Rel c h₀ L m Hid W σ s) (hk : ev.scope.kind = .function) (hg : ev.globals = mainGlobals) (hb : ev.builtins = builtinsNs) (hx : ev.kindOf b.name = some .globalImplicit)
    (e : nsIn c.K mainGlobals b.name = some none) (q : Q b.val s) : wpAny M A (eval (.Name b.name pos) ev) Q E s :=
  Name_function_global hk hx (loadGlobal_builtin (by rw [hg]; exact f.T.g.keeps R.F.keep) (mg_none_of f.X f.T.g e) (by rw [hb]; exact f.T.b.keeps R.F.keep) ((f.T.builtins _ b.boot.2.1).trans b.boot.1) q) b.boot.2.2

end
end
section
open PySem PySem.W PyProof.Rows PySem.Calls

/-- a frame's data -/
structure FB where
  A₀ : Around
  A : Around
  outer : List Env
  env : Env
  h₀ : Heap
  L : Addr
  m : Str → Option Value
  Hid : Led
  /-- those of the hidden that names may stand in -/
  Cel : Led

noncomputable def FB.hid (fb : FB) (p : Addr × Obj) : FB := { fb with Hid := p :: fb.Hid }
noncomputable def FB.setm (fb : FB) (m : Str → Option Value) : FB := { fb with m := m }

structure FB.ok (fb : FB) (c : Cx) (n : Nat) : Prop extends Fm c fb.A₀ fb.A fb.outer fb.env fb.h₀ fb.L where
  dp : fb.A.depth + 2 * n + 8 < recursionLimit
  un : fb.A.units + 8 * n + 128 < cLine
  ce : ∀ p ∈ fb.Cel, p ∈ fb.Hid

noncomputable abbrev RelF (c : Cx) (fb : FB) (W : GW) (σ : St) (s : Shared) : Prop := Rel c fb.h₀ fb.L fb.m fb.Hid W σ s
noncomputable abbrev LocF (c : Cx) (fb : FB) (ev : Env) (W : GW) (ρ : Loc) : Prop := LocR c ev fb.L fb.m fb.Cel W ρ
theorem FB.ok.cel {fb : FB} {c : Cx} {n : Nat} (f : FB.ok fb c n) {W : GW} : ∀ p ∈ fb.Cel ++ W.I, p ∈ fb.Hid ++ W.I := fun p hp => (List.mem_append.mp hp).elim (fun h => List.mem_append_left _ (f.ce p h)) (List.mem_append_right _)

structure NewE (h h' : Heap) (e : Addr) (cls : Value) : Prop where
  keep : ∀ b o, h.get? b = some o → h'.get? b = some o
  new : h.get? e = none
  there : ∃ oe vs a0, h'.get? e = some oe ∧ oe.cls = cls ∧ oe.data = .fields vs ∧ vs[1]? = some .none ∧ vs[0]? = some a0

/-- the ledger is kept while an exception flies -/
noncomputable def LedIn (base : Heap) (l : Led) (B : Heap) : Prop := base.StaysIn B ∧ ∀ q ∈ l, B.get? q.1 = some q.2 ∧ base.get? q.1 = none
noncomputable def AnyW (base : Heap) (l : List Env) (e : Addr) (cls a0 fl : Value) (h : Heap) : Prop := base.StaysIn h ∧ base.get? e = none ∧ h.FunFrames base l ∧ h.TracedAtW base e cls a0 fl
inductive Way (c : Cx) (fb : FB) (l : Led) (e : Addr) (s : Heap) : Prop
  | made (h : Heap) : Fr fb.h₀ fb.L h fb.m → News fb.h₀ fb.L h l → NewE h s e (.ref c.RF) → Way c fb l e s
  | fly (g B : Heap) (a0 fl : Value) : Fr fb.h₀ fb.L g fb.m → LedIn c.base l B → AnyW B (fb.env :: fb.outer) e (.ref c.RF) a0 fl s → g.UpToSlots s → Way c fb l e s
/-- an exception on its way in the frame -/
structure Rx (c : Cx) (fb : FB) (W : GW) (σ : St) (e : Value) (s : Shared) : Prop extends Lg c fb.Hid W σ where
  sm : Same c s
  way : ∃ a, e = .ref a ∧ Way c fb (led W fb.Hid) a s.heap

noncomputable def PQ (c : Cx) (fb : FB) (W : GW) (Q : KE) (Qc : Value → Shared → Prop) : Prop :=
  ∀ v av σ' s' W', RelF c fb W' σ' s' → W.Le W' → VR c.CR W' av v → Q av σ' → Qc v s'
noncomputable def PB (c : Cx) (fb : FB) (W : GW) (Q : Bool → St → Prop) (Qc : Bool → Shared → Prop) : Prop :=
  ∀ b σ' s' W', RelF c fb W' σ' s' → W.Le W' → Q b σ' → Qc b s'
noncomputable def PL (c : Cx) (fb : FB) (W : GW) (Q : List AV → St → Prop) (Qc : List Value → Shared → Prop) : Prop :=
  ∀ vs avs σ' s' W', RelF c fb W' σ' s' → W.Le W' → VRs c.CR W' avs vs → Q avs σ' → Qc vs s'
noncomputable def PX (c : Cx) (fb : FB) (W : GW) (ex : St → Prop) (Ec : Value → Shared → Prop) : Prop :=
  ∀ e σ' s' W', Rx c fb W' σ' e s' → W.Le W' → ex σ' → Ec e s'

structure EvOk (fb : FB) (ev : Env) : Prop where
  k : ev.scope.kind = .function
  g : ev.globals = mainGlobals
  b : ev.builtins = builtinsNs
  f : ev.frame = some fb.L

noncomputable def KindOk (ev : Env) (sc : List (Str × NameKind)) : Prop := ∀ x, sc.lookup x = some .globalImplicit → ev.kindOf x = some .globalImplicit

/-- what a def's contract means -/
inductive FnR (c : Cx) (W : GW) : Fn → Value → Prop
  | top {a} : FnR c W (.top a) (.ref a)
  | clo {l v} : VR c.CR W (.clo l) v → FnR c W (.clo l) v

noncomputable abbrev RetP (Qc Ec : Value → Shared → Prop) : Result → Shared → Prop := fun r s' => match r with
  | .ok (.ret v) => Qc v s'
  | .ok _ => False
  | .error e => Ec e s'
structure SndC (c : Cx) (C : Ctr) (n : Nat) : Prop where
  code : ∀ fb W σ s fn f args vs ex Q Qc Ec, FB.ok fb c n → RelF c fb W σ s → FnR c W fn f → VRs c.CR W args vs → C fn args σ ex Q →
    PQ c fb W Q Qc → PX c fb W ex Ec → codeAny (model c.prog c.w) fb.A (.call f ⟨vs, []⟩) (RetP Qc Ec) s
  keep : ∀ a args σ ex Q, C (.top a) args σ ex Q → keepIn c.K (.ref a) = true

theorem SndC.call {c C n} (x : SndC c C n) : ∀ fb W σ s fn f args vs ex Q Qc Ec, FB.ok fb c n → RelF c fb W σ s → FnR c W fn f → VRs c.CR W args vs → C fn args σ ex Q →
    PQ c fb W Q Qc → PX c fb W ex Ec → wpAny (model c.prog c.w) fb.A (PySem.call f vs) Qc Ec s :=
  fun fb W σ s fn f args vs ex Q Qc Ec h1 h2 h3 h4 h5 h6 h7 => wpAny_call (x.code fb W σ s fn f args vs ex Q Qc Ec h1 h2 h3 h4 h5 h6 h7)
/-- what is so of the laid objects -/
structure CxOk (c : Cx) : Prop where
  own : ∀ C, clsNos.contains C = true → plainGet c.K C "" = true ∧ hasDictIn c.K C = true ∧ findIn c.K (.ref C) "__setattr__" = some (some (.builtin "object.__setattr__")) ∧ plainOver c.K C = true
  att : ∀ C nm, clsNos.contains C = true → attrNames.contains nm = true → findIn c.K (.ref C) ⟨nm.toArray⟩ = some none ∧ takerIn c.K C ⟨nm.toArray⟩ = some none
  mt : ∀ C nm f, methNo C nm = some f → clsNos.contains C = true ∧ findIn c.K (.ref C) ⟨nm.toArray⟩ = some (some (.ref f)) ∧ isFn c.K (.ref f) = true ∧ keepIn c.K (.ref f) = true
  cr : ∀ I a ws, c.CR I a ws → ∃ o fd, (a, o) ∈ I ∧ o.data = .func fd

noncomputable def SE (c : Cx) (C : Ctr) (n : Nat) (ev : Env) (e : Expr) (x : X) : Prop := ∀ fb k ρ W σ s ex Q Qc Ec, FB.ok fb c n → EvOk fb ev → RelF c fb W σ s → LocF c fb ev W ρ → evE C ex k ρ x σ Q →
  PQ c fb W Q Qc → PX c fb W ex Ec → wpAny (model c.prog c.w) fb.A (eval e ev) Qc Ec s
noncomputable def ST (c : Cx) (C : Ctr) (n : Nat) (ev : Env) (e : Expr) (x : X) : Prop := ∀ fb k ρ W σ s ex Q Qc Ec whole, FB.ok fb c n → EvOk fb ev → RelF c fb W σ s → LocF c fb ev W ρ → evT C ex k ρ x σ Q →
  whole = eval e ev → PB c fb W Q Qc → PX c fb W ex Ec → wpAny (model c.prog c.w) fb.A (isTrue e ev whole) Qc Ec s

section
variable {c : Cx} {fb : FB} {W W' : GW} {σ : St} {s : Shared} {ev : Env} {ρ : Loc} {n : Nat}

theorem PQ.le {Q Qc} (h : PQ c fb W Q Qc) (le : W.Le W') : PQ c fb W' Q Qc := fun v av σ' s' W'' R l V q => h v av σ' s' W'' R (le.trans l) V q
theorem PX.le {ex Ec} (h : PX c fb W ex Ec) (le : W.Le W') : PX c fb W' ex Ec := fun e σ' s' W'' R l q => h e σ' s' W'' R (le.trans l) q
theorem PB.le {Q Qc} (h : PB c fb W Q Qc) (le : W.Le W') : PB c fb W' Q Qc := fun b σ' s' W'' R l q => h b σ' s' W'' R (le.trans l) q
theorem PL.le {Q Qc} (h : PL c fb W Q Qc) (le : W.Le W') : PL c fb W' Q Qc := fun v av σ' s' W'' R l V q => h v av σ' s' W'' R (le.trans l) V q
theorem LocF.le (h : LocF c fb ev W ρ) (hm : CloMono c.CR) (le : W.Le W') : LocF c fb ev W' ρ := LocR.mono hm le h
theorem FB.ok.stays (f : FB.ok fb c n) : c.base.StaysIn fb.h₀ := f.B.stays
theorem FB.ok.lim (f : FB.ok fb c n) : fb.h₀.NoLimit := f.T.nolimit

theorem VR.int_inv {CR W i v} (h : VR CR W (.int i) v) : ∃ t, v = .int i t := by cases h; exact ⟨_, rfl⟩
theorem VR.str_inv {CR W i v} (h : VR CR W (.str i) v) : ∃ t, v = .str ⟨i.toArray⟩ t := by cases h; exact ⟨_, rfl⟩
theorem VR.bool_inv {CR W i v} (h : VR CR W (.bool i) v) : v = .bool i := by cases h; rfl
theorem VR.none_inv {CR W v} (h : VR CR W .none v) : v = .none := by cases h; rfl
theorem VR.lst_inv {CR W l v} (h : VR CR W (.lst l) v) : ∃ a ws, v = .ref a ∧ W.Seq "list" a ws ∧ VRs CR W l ws := by cases h; exact ⟨_, _, rfl, ‹_›, ‹_›⟩
theorem VR.tup_inv {CR W l v} (h : VR CR W (.tup l) v) : ∃ a ws, v = .ref a ∧ W.Seq "tuple" a ws ∧ VRs CR W l ws := by cases h; exact ⟨_, _, rfl, ‹_›, ‹_›⟩

theorem VRs.nil_inv {CR W ws} (h : VRs CR W [] ws) : ws = [] := by cases h; rfl
theorem VRs.cons_inv {CR W a l ws} (h : VRs CR W (a :: l) ws) : ∃ v r, ws = v :: r ∧ VR CR W a v ∧ VRs CR W l r := by cases h with | cons x r => exact ⟨_, _, rfl, x, r⟩
theorem VRs.one_inv {CR W a ws} (h : VRs CR W [a] ws) : ∃ v, ws = [v] ∧ VR CR W a v := by
  obtain ⟨v, r, rfl, V, h⟩ := h.cons_inv
  obtain rfl := h.nil_inv
  exact ⟨v, rfl, V⟩
theorem VRs.two_inv {CR W a b ws} (h : VRs CR W [a, b] ws) : ∃ v u, ws = [v, u] ∧ VR CR W a v ∧ VR CR W b u := by
  obtain ⟨v, r, rfl, V, h⟩ := h.cons_inv
  obtain ⟨u, rfl, U⟩ := h.one_inv
  exact ⟨v, u, rfl, V, U⟩
section
variable {CR : CloRel} {α : Type} {a : AV} {v : Value} {r : α}
theorem VR.asInt {i} (V : VR CR W a v) (h : asInt a = some i) : ∃ t, v = .int i t := by obtain rfl := asInt_inv h; exact V.int_inv
theorem VR.asStr {i} (V : VR CR W a v) (h : asStr a = some i) : ∃ t, v = .str ⟨i.toArray⟩ t := by obtain rfl := asStr_inv h; exact V.str_inv
theorem VR.asLst {i} (V : VR CR W a v) (h : asLst a = some i) : ∃ x ws, v = .ref x ∧ W.Seq "list" x ws ∧ VRs CR W i ws := by obtain rfl := asLst_inv h; exact V.lst_inv
theorem VR.asObj {i} (V : VR CR W a v) (h : asObj a = some i) : VR CR W (.obj i) v := by obtain rfl := asObj_inv h; exact V
theorem VR.intB {f} (V : VR CR W a v) (h : intB f a) : ∃ i t, v = .int i t ∧ f i :=
  let ⟨i, e, h⟩ := osB_inv h; let ⟨t, e⟩ := V.asInt e; ⟨i, t, e, h⟩
theorem VR.strB {f} (V : VR CR W a v) (h : strB f a) : ∃ i t, v = .str ⟨i.toArray⟩ t ∧ f i :=
  let ⟨i, e, h⟩ := osB_inv h; let ⟨t, e⟩ := V.asStr e; ⟨i, t, e, h⟩
theorem VR.lstB {f} (V : VR CR W a v) (h : lstB f a) : ∃ l x ws, v = .ref x ∧ W.Seq "list" x ws ∧ VRs CR W l ws ∧ f l :=
  let ⟨i, e, h⟩ := osB_inv h; let ⟨x, ws, e, s, V⟩ := V.asLst e; ⟨i, x, ws, e, s, V, h⟩
theorem VR.objB {f} (V : VR CR W a v) (h : objB f a) : ∃ i, VR CR W (.obj i) v ∧ f i :=
  let ⟨i, e, h⟩ := osB_inv h; ⟨i, V.asObj e, h⟩
theorem VR.intV {f : Int → Option α} (V : VR CR W a v) (h : intV f a = some r) : ∃ i t, v = .int i t ∧ f i = some r :=
  let ⟨i, e, h⟩ := obind_inv h; let ⟨t, e⟩ := V.asInt e; ⟨i, t, e, h⟩
theorem VR.strV {f : List Nat → Option α} (V : VR CR W a v) (h : strV f a = some r) : ∃ i t, v = .str ⟨i.toArray⟩ t ∧ f i = some r :=
  let ⟨i, e, h⟩ := obind_inv h; let ⟨t, e⟩ := V.asStr e; ⟨i, t, e, h⟩
theorem VR.boolV {f : Bool → Option α} (V : VR CR W a v) (h : boolV f a = some r) : ∃ i, v = .bool i ∧ f i = some r :=
  let ⟨i, e, h⟩ := obind_inv h; ⟨i, (asBool_inv e ▸ V).bool_inv, h⟩
theorem VR.lstV {f : List AV → Option α} (V : VR CR W a v) (h : lstV f a = some r) : ∃ l x ws, v = .ref x ∧ W.Seq "list" x ws ∧ VRs CR W l ws ∧ f l = some r :=
  let ⟨i, e, h⟩ := obind_inv h; let ⟨x, ws, e, s, V⟩ := V.asLst e; ⟨i, x, ws, e, s, V, h⟩
theorem VR.objV {f : Nat → Option α} (V : VR CR W a v) (h : objV f a = some r) : ∃ i, VR CR W (.obj i) v ∧ f i = some r :=
  let ⟨i, e, h⟩ := obind_inv h; ⟨i, V.asObj e, h⟩
/-- how an object stands -/
structure LstAt (c : Cx) (fb : FB) (W : GW) (s : Shared) (i : Nat) (l : List AV) (v : Value) (x : Addr) (ws : List Value) (k : Nat) : Prop where
  eq : v = .ref x
  mu : W.Mu[i]? = some (x, listOf ws.toArray k)
  vs : VRs c.CR W l ws
  get : s.heap.get? x = some (listOf ws.toArray k)
structure DctAt (c : Cx) (fb : FB) (W : GW) (s : Shared) (i : Nat) (es : List (List Nat × AV)) (v : Value) (x : Addr) (o : Obj) (kvs : List (Str × Value)) : Prop where
  eq : v = .ref x
  mu : W.Mu[i]? = some (x, o)
  vs : ER c.CR W es kvs
  is : o.IsDictOf (PySem.strKind c.prog c.w) kvs
  mem : (x, o) ∈ led W fb.Hid
  get : s.heap.get? x = some o
theorem lst_at (R : RelF c fb W σ s) {i : Nat} (V : VR c.CR W (.obj i) v) {l : List AV} (e : σ[i]? = some (.list l)) : ∃ x ws k, LstAt c fb W s i l v x ws k := by
  obtain ⟨x, o, rfl, a1, a2, a3, a4⟩ := R.ref V e
  cases a2 with | list h => exact ⟨x, _, _, rfl, a1, h, a4⟩
theorem dct_at (R : RelF c fb W σ s) {i : Nat} (V : VR c.CR W (.obj i) v) {l : List (List Nat × AV)} (e : σ[i]? = some (.dict l)) : ∃ x o kvs, DctAt c fb W s i l v x o kvs := by
  obtain ⟨x, o, rfl, a1, a2, a3, a4⟩ := R.ref V e
  cases a2 with | dict h hd => exact ⟨x, o, _, rfl, a1, h, hd, a3, a4⟩
theorem pin_at (R : RelF c fb W σ s) {i : Nat} (V : VR c.CR W (.obj i) v) {l : List (List Nat × AV)} {po : Obj} (e : σ[i]? = some (.pin l po)) : ∃ x o kvs, DctAt c fb W s i l v x o kvs := by
  obtain ⟨x, o, rfl, a1, a2, a3, a4⟩ := R.ref V e
  cases a2 with | pin h hd => exact ⟨x, _, _, rfl, a1, h, hd, a3, a4⟩
/-- rows, of a dict or of a pinned one -/
theorem rows_at {i : Nat} {f : List (List Nat × AV) → Option α} (R : RelF c fb W σ s) (V : VR c.CR W (.obj i) v) (h : rowsV f σ[i]? = some r) : ∃ es x o kvs, DctAt c fb W s i es v x o kvs ∧ f es = some r := by
  cases e : σ[i]? with
  | none => rw [e] at h; exact no_some h
  | some o =>
    rw [e] at h
    cases o with
    | dict l => obtain ⟨x, o, kvs, A⟩ := dct_at R V e; exact ⟨l, x, o, kvs, A, h⟩
    | pin l po => obtain ⟨x, o, kvs, A⟩ := pin_at R V e; exact ⟨l, x, o, kvs, A, h⟩
    | _ => exact no_some h
theorem VR.twoI {b : AV} {u : Value} {f : Int → Int → Prop} (U : VR CR W a v) (V : VR CR W b u) (h : twoI a b f) : ∃ i t j t', v = .int i t ∧ u = .int j t' ∧ f i j := by
  obtain ⟨i, t, rfl, h⟩ := U.intB h
  obtain ⟨j, t', rfl, h⟩ := V.intB h
  exact ⟨i, t, j, t', rfl, rfl, h⟩
end

theorem ev_const {x : X} {cc k pos} (h : trC cc = some x) (C : Ctr) : SE c C n ev (.Constant cc k pos) x := by
  intro fb k' ρ W σ s ex Q Qc Ec f eo R L E hq hx
  cases k' with
  | zero => exact E.elim
  | succ k' =>
    cases cc with
    | none => obtain rfl := Option.some.inj h; exact wpAny_Constant_none (hq _ _ _ _ _ R (.refl _) .none E)
    | bool b => obtain rfl := Option.some.inj h; exact wpAny_Constant_bool (hq _ _ _ _ _ R (.refl _) .bool E)
    | int i => obtain rfl := Option.some.inj h; exact wpAny_Constant_int (hq _ _ _ _ _ (R.tok _) (.refl _) .int E)
    | str t => obtain rfl := Option.some.inj h; exact wpAny_Constant_str (hq _ _ _ _ _ (R.tok _) (.refl _) (by have := @VR.str c.CR W (cp t) s.toks; simpa [cp] using this) E)
    | _ => exact no_some h

theorem ev_name {x : Str} {pos} (C : Ctr) (hd : (x == ("__debug__" : Str)) = false) : SE c C n ev (.Name x pos) (.name (cp x)) := by
  intro fb k' ρ W σ s ex Q Qc Ec f eo R L E hq hx
  cases k' with
  | zero => exact E.elim
  | succ k' =>
    obtain ⟨v, hl, E⟩ := osB_inv (o := look (cp x) ρ) E
    obtain ⟨w, V, N⟩ := L _ _ hl
    exact name_read R eo.k (by have e : (⟨(cp x).toArray⟩ : Str) = x := by simp [cp]
                               rw [e] at N; exact N.mono f.cel) hd (hq _ _ _ _ _ R (.refl _) V E)

theorem ev_glob {x : Str} {pos a} (C : Ctr) {gl} (hg : GlR c gl) (e : gl x = some (.av a)) (hk : ev.kindOf x = some .globalImplicit) (hd : (x == ("__debug__" : Str)) = false) : SE c C n ev (.Name x pos) (.const a) := by
  intro fb k' ρ W σ s ex Q Qc Ec f eo R L E hq hx
  cases k' with
  | zero => exact E.elim
  | succ k' =>
    obtain ⟨v, h1, h2⟩ := hg x _ e
    exact glob_read f.toFm R eo.k eo.g hk h1 hd (hq _ _ _ _ _ R (.refl _) (h2 _ R.g) E)

/-- a row of trees -/
inductive F2 {α β : Type} (R : α → β → Prop) : List α → List β → Prop
  | nil : F2 R [] []
  | cons {a b l m} : R a b → F2 R l m → F2 R (a :: l) (b :: m)
theorem F2.imp {α β : Type} {R S : α → β → Prop} (h : ∀ a b, R a b → S a b) {l m} (x : F2 R l m) : F2 S l m := by
  induction x with
  | nil => exact .nil
  | cons x _ ih => exact .cons (h _ _ x) ih
theorem F2.length {α β : Type} {R : α → β → Prop} {l m} (x : F2 R l m) : l.length = m.length := by
  induction x with
  | nil => rfl
  | cons _ _ ih => exact congrArg Nat.succ ih
theorem F2.nil_inv {α β : Type} {R : α → β → Prop} {m} (x : F2 R [] m) : m = [] := by cases x; rfl
theorem F2.cons_inv {α β : Type} {R : α → β → Prop} {a l m} (x : F2 R (a :: l) m) : ∃ b r, m = b :: r ∧ R a b ∧ F2 R l r := by cases x with | cons h r => exact ⟨_, _, rfl, h, r⟩
theorem F2.nil_invr {α β : Type} {R : α → β → Prop} {l} (x : F2 R l []) : l = [] := by cases x; rfl
theorem F2.cons_invr {α β : Type} {R : α → β → Prop} {b l m} (x : F2 R l (b :: m)) : ∃ a r, l = a :: r ∧ R a b ∧ F2 R r m := by cases x with | cons h r => exact ⟨_, _, rfl, h, r⟩
theorem star_cons {e : Expr} {es : List Expr} (h : starEach [e] ev = [(false, eval e ev)]) : starEach (e :: es) ev = (false, eval e ev) :: starEach es ev := by
  have : ∀ b, starEach [e] ev = [b] → starEach (e :: es) ev = b :: starEach es ev := by
    intro b hb
    cases e <;> first | (obtain rfl := (List.cons.inj hb).1; rfl)
  exact this _ h

theorem ev_list {C : Ctr} {ex : St → Prop} {k : Nat} {Ec pos} (f : FB.ok fb c n) (eo : EvOk fb ev) {es : List Expr} {xs : List X} (h : F2 (fun e x => SE c C n ev e x ∧ starEach [e] ev = [(false, eval e ev)]) es xs) : ∀ {W σ s Q Qc}, RelF c fb W σ s → LocF c fb ev W ρ →
    seqL (evE C ex k ρ) xs σ Q → PL c fb W Q Qc → PX c fb W ex Ec → wpAny (model c.prog c.w) fb.A (spliced (backTo pos (starEach es ev))) Qc Ec s := by
  induction h with
  | nil => intro W σ s Q Qc R L E hq hx; exact wpAny_items_nil (hq _ _ _ _ _ R (.refl _) .nil E)
  | cons h _ ih =>
    intro W σ s Q Qc R L E hq hx
    refine wpAny_items_cons ?_ (star_cons h.2)
    refine h.1 _ _ _ _ _ _ _ _ _ _ f eo R L E (fun v av σ' s' W' R' le V E' => ?_) hx
    exact ih R' (L.le R.cm le) E' (fun vs avs σ'' s'' W'' R'' le' Vs q => hq _ _ _ _ _ R'' (le.trans le') (.cons (V.mono R.cm le') Vs) q) (hx.le le)
end
end
section
open PySem PySem.W PyProof.Rows PySem.Calls
section
variable {c : Cx} {fb : FB} {W W' : GW} {σ : St} {s : Shared} {n : Nat}

theorem str_append (a b : List Nat) : ((⟨a.toArray⟩ : Str) ++ (⟨b.toArray⟩ : Str)) = ⟨(a ++ b).toArray⟩ := by
  show Str.mk (a.toArray ++ b.toArray) = _
  rw [List.append_toArray]

theorem bits_of {a : Int} (h : a.natAbs < 2 ^ 62) : Builtin.Int.intBits a ≤ 64 := intBits_le_64 (by omega) (by omega)

theorem rep_nil (n : Int) : rep [] n = [] := by
  unfold rep
  induction n.toNat with
  | zero => rfl
  | succ n ih => rw [List.replicate_succ, List.flatten_cons, ih]; rfl

/-- a new list that no other holds yet, as a value -/
theorem new_lst (R : RelF c fb W σ s) {D : Addr} {ws : List Value} {l : List AV} {k : Nat} {h' : Heap} {tk : Nat} {Q : KE} {Qc : Value → Shared → Prop}
    (F : Fr fb.h₀ fb.L h' fb.m) (N : News fb.h₀ fb.L h' ((D, { cls := .type "list", data := .seq ws.toArray k }) :: led W fb.Hid)) (fr : ∀ p ∈ led W fb.Hid, p.1 ≠ D) (V : VRs c.CR W l ws) (hq : PQ c fb W Q Qc) (q : Q (.lst l) σ) :
    Qc (.ref D) { s with heap := h', toks := tk } :=
  hq _ _ _ _ _ (R.imm F N fr) le_imm (.lst ⟨_, _, .inl (.head _), rfl, rfl⟩ (V.mono R.cm le_imm)) q
theorem new_tup (R : RelF c fb W σ s) {D : Addr} {ws : List Value} {l : List AV} {k : Nat} {h' : Heap} {tk : Nat} {Q : KE} {Qc : Value → Shared → Prop}
    (F : Fr fb.h₀ fb.L h' fb.m) (N : News fb.h₀ fb.L h' ((D, { cls := .type "tuple", data := .seq ws.toArray k }) :: led W fb.Hid)) (fr : ∀ p ∈ led W fb.Hid, p.1 ≠ D) (V : VRs c.CR W l ws) (hq : PQ c fb W Q Qc) (q : Q (.tup l) σ) :
    Qc (.ref D) { s with heap := h', toks := tk } :=
  hq _ _ _ _ _ (R.imm F N fr) le_imm (.tup ⟨_, _, .inl (.head _), rfl, rfl⟩ (V.mono R.cm le_imm)) q
theorem new_obj (R : RelF c fb W σ s) {D : Addr} {ws : List Value} {l : List AV} {k : Nat} {h' : Heap} {tk : Nat} {Q : KE} {Qc : Value → Shared → Prop}
    (F : Fr fb.h₀ fb.L h' fb.m) (N : News fb.h₀ fb.L h' ((D, { cls := .type "list", data := .seq ws.toArray k }) :: led W fb.Hid)) (fr : ∀ p ∈ led W fb.Hid, p.1 ≠ D) (V : VRs c.CR W l ws) (hq : PQ c fb W Q Qc)
    (q : Q (.obj σ.length) (σ ++ [.list l])) : Qc (.ref D) { s with heap := h', toks := tk } := by
  refine hq _ _ _ _ _ (R.mut F N fr (.inl rfl) (.list (V.mono R.cm le_mut))) le_mut (.obj ?_) q
  rw [← R.hr.length]
  simp [GW.ad]

theorem VRs.reps {CR W l ws} (h : VRs CR W l ws) : ∀ k : Nat, VRs CR W (List.replicate k l).flatten (List.replicate k ws).flatten
  | 0 => .nil
  | k + 1 => by simpa [List.replicate_succ] using h.append (VRs.reps h k)

theorem div_pylong {a b : Int} (h : a.natAbs < 2 ^ 62) : Builtin.divisionGoesByPylong a b = false := by
  have h1 : a.natAbs.log2 < 62 ∨ a = 0 := by
    by_cases e : a = 0
    · exact .inr e
    · exact .inl ((Nat.log2_lt (by omega)).mpr h)
  unfold Builtin.divisionGoesByPylong
  simp only [Bool.and_eq_false_iff, decide_eq_false_iff_not, beq_iff_eq]
  by_cases e : a = 0
  · simp [e]
  · have := h1.resolve_right e
    simp [e]; omega

theorem foldl_rep (l : List Nat) : ∀ (k : Nat) (acc : Array Nat), (List.replicate k l.toArray).foldl (· ++ ·) acc = acc ++ (List.replicate k l).flatten.toArray
  | 0, acc => by simp
  | k + 1, acc => by
    rw [List.replicate_succ, List.foldl_cons, foldl_rep l k, List.replicate_succ, List.flatten_cons]
    simp
theorem txt_mul (a : List Nat) (n : Int) : Txt.mul ⟨a.toArray⟩ n = ⟨(rep a n).toArray⟩ := by
  unfold Txt.mul rep
  by_cases h : n < 1
  · rw [if_pos h]
    have : n.toNat = 0 := by omega
    rw [this]; rfl
  · rw [if_neg h]
    by_cases h2 : (n == 1 || Str.length ⟨a.toArray⟩ == 0) = true
    · rw [if_pos h2]
      simp only [Bool.or_eq_true, beq_iff_eq, Str.length, List.size_toArray] at h2
      rcases h2 with h2 | h2
      · subst h2; simp
      · have : a = [] := List.length_eq_zero_iff.mp h2
        subst this
        have e := rep_nil n
        unfold rep at e
        rw [e]
    · rw [if_neg h2]
      have := foldl_rep a n.toNat #[]
      simp only [Array.empty_append] at this
      exact congrArg Str.mk (by simpa using this)
theorem mul_ok {a : List Nat} {n : Int} (h1 : a.length ≤ 1000) (h2 : -1000 ≤ n) (h3 : n ≤ 1000) : MulOk ⟨a.toArray⟩ n := by
  refine ⟨by simp; omega, fun h4 h5 => ?_, fun h4 h5 => ?_⟩
  · simp only [Str.length, List.size_toArray]
    have hd : (2 ^ 63 - 1) / n ≥ 1000 := by
      apply (Int.le_ediv_iff_mul_le (by omega)).mpr
      omega
    omega
  · unfold Builtin.Str.tooLong
    simp only [Str.length, List.size_toArray]
    have : a.length * n.toNat ≤ 1000 * 1000 := Nat.mul_le_mul h1 (by omega)
    have e := sizeLine_eq
    simp; omega

section
variable {u v : AV} {u' v' : Value} {Q : KE} {Qc Ec : Value → Shared → Prop}
theorem snd_add (f : FB.ok fb c n) (R : RelF c fb W σ s) (U : VR c.CR W u u') (V : VR c.CR W v v') (E : addB v σ Q u) (hq : PQ c fb W Q Qc) :
    wpAny (model c.prog c.w) fb.A (binaryOp .Add u' v') Qc Ec s := by
  cases u with
  | int a =>
    obtain ⟨t, rfl⟩ := U.int_inv
    obtain ⟨b, t', rfl, E⟩ := V.intB E
    exact add_int (hq _ _ _ _ _ (R.tok _) (.refl _) .int E)
  | str a =>
    obtain ⟨t, rfl⟩ := U.str_inv
    obtain ⟨b, t', rfl, E⟩ := V.strB E
    refine add_str (fun t' tk => ?_) (by rw [sizeLine_eq]; simp only [Str.length, List.size_toArray]; exact Nat.le_trans E.1 (by decide))
    rw [str_append]
    exact hq _ _ _ _ _ (R.tok _) (.refl _) .str E.2
  | lst a =>
    obtain ⟨x, ws, rfl, h1, h2⟩ := U.lst_inv
    obtain ⟨b, y, ws', rfl, h3, h4, E⟩ := V.lstB E
    exact add_arrays R.F R.N (R.isList f.stays h1) (R.isList f.stays h3) (fun h' F' N' => new_lst (tk := s.toks) R F' N' R.fresh (h2.append h4) hq E.2) (by rw [sizeLine_eq]; simp only [List.size_toArray, h2.length, h4.length]; exact Nat.le_trans E.1 (by decide))
  | _ => exact E.elim
theorem snd_mul (f : FB.ok fb c n) (R : RelF c fb W σ s) (U : VR c.CR W u u') (V : VR c.CR W v v') (E : mulB v σ Q u) (hq : PQ c fb W Q Qc) :
    wpAny (model c.prog c.w) fb.A (binaryOp .Mult u' v') Qc Ec s := by
  cases u with
  | int a =>
    obtain ⟨t, rfl⟩ := U.int_inv
    obtain ⟨b, t', rfl, E⟩ := V.intB E
    exact mul_int (hq _ _ _ _ _ (R.tok _) (.refl _) .int E.2) (E.1.elim (fun h => .of_left (bits_of h)) (fun h => .of_right (bits_of h)))
  | str a =>
    obtain ⟨t, rfl⟩ := U.str_inv
    obtain ⟨b, t', rfl, h1, h2, h3, h4⟩ := V.intB E
    refine SB.mul (mul_ok h1 h2 h3) (fun t' tk => ?_)
    rw [txt_mul]
    exact hq _ _ _ _ _ (R.tok _) (.refl _) .str h4
  | lst a =>
    obtain ⟨x, ws, rfl, h1, h2⟩ := U.lst_inv
    obtain ⟨b, t', rfl, e1, e2, e3, e4⟩ := V.intB E
    refine KMa.mul R.F R.N (R.isList f.stays h1) (by omega) (by omega) ?_ rfl fun D h' F' N' lt => new_obj (tk := s.toks) R F' N' (ne_of_lts lt) (h2.reps _) hq e4
    rw [h2.length]
    exact Nat.le_trans (Nat.mul_le_mul e1 (by omega : _ ≤ 20)) (by decide)
  | _ => exact E.elim
theorem snd_binop {op : Operator} (f : FB.ok fb c n) (R : RelF c fb W σ s) (U : VR c.CR W u u') (V : VR c.CR W v v') (E : binop op u v σ Q) (hq : PQ c fb W Q Qc) :
    wpAny (model c.prog c.w) fb.A (binaryOp op u' v') Qc Ec s := by
  cases op with
  | Add => exact snd_add f R U V E hq
  | Sub =>
    obtain ⟨a, t, b, t', rfl, rfl, E⟩ := U.twoI V E
    exact sub_int (hq _ _ _ _ _ (R.tok _) (.refl _) .int E)
  | Mult => exact snd_mul f R U V E hq
  | FloorDiv =>
    obtain ⟨a, t, b, t', rfl, rfl, E⟩ := U.twoI V E
    exact floordiv_int E.1 (hq _ _ _ _ _ (R.tok _) (.refl _) .int E.2.2) (.inl (div_pylong E.2.1))
  | Mod =>
    obtain ⟨a, t, b, t', rfl, rfl, E⟩ := U.twoI V E
    exact mod_int' E.1 (hq _ _ _ _ _ (R.tok _) (.refl _) .int E.2)
  | Pow =>
    obtain ⟨a, t, b, t', rfl, rfl, h1, h2, h3, h4⟩ := U.twoI V E
    refine pow_int h1 ?_ (hq _ _ _ _ _ (R.tok _) (.refl _) .int h4)
    exact Int.le_trans (Int.mul_le_mul (Int.ofNat_le.mpr (bits_of (Nat.lt_of_le_of_lt h3 (by decide)))) h2 h1 (by decide)) (by decide)
  | LShift =>
    obtain ⟨a, t, b, t', rfl, rfl, h1, h2, h3, h4⟩ := U.twoI V E
    refine lshift_int h1 ?_ (hq _ _ _ _ _ (R.tok _) (.refl _) .int h4)
    have hb := bits_of h3
    omega
  | _ => exact E.elim
end
end
end
section
open PySem PySem.W PyProof.Rows PySem.Calls
section
variable {c : Cx} {fb : FB} {W W' : GW} {σ : St} {s : Shared} {n : Nat}

theorem str_ne {a b : List Nat} (e : ¬ a = b) : ¬ (⟨b.toArray⟩ : Str) = ⟨a.toArray⟩ := fun q => e (by have := congrArg (fun x : Str => x.cps.toList) q; simpa using this.symm)
theorem ER.look {CR W} {es kvs} (h : ER CR W es kvs) (k) : (match look k es with | some a => ∃ v, valueAt kvs ⟨k.toArray⟩ = some v ∧ VR CR W a v | none => valueAt kvs ⟨k.toArray⟩ = none) := by
  induction h with
  | nil => rfl
  | @cons k₁ a v l ws V _ ih =>
    rw [look_cons]
    unfold valueAt
    by_cases e : k = k₁
    · subst e
      rw [if_pos rfl]
      exact ⟨_, by simp, V⟩
    · rw [if_neg e, List.find?_cons_of_neg (by simpa using str_ne e)]
      exact ih
theorem ER.isSome {CR W es kvs} (h : ER CR W es kvs) (k : List Nat) : (valueAt kvs ⟨k.toArray⟩).isSome = (Mine.look k es).isSome := by
  have := h.look k
  cases e : Mine.look k es with
  | some a => rw [e] at this; obtain ⟨v, e, _⟩ := this; rw [e]; rfl
  | none => rw [e] at this; rw [this]; rfl
theorem strs_is (x : List Nat) (t : Tok) {prog w} : (strKind prog w).is ⟨x.toArray⟩ (.str ⟨x.toArray⟩ t) = true := by
  show ((⟨x.toArray⟩ : Str) == ⟨x.toArray⟩) = true
  simp
theorem isInts_are {CR W} : ∀ {l ns ws}, isInts l = some ns → VRs CR W l ws → IntsAre ws ns := by
  intro l
  induction l with
  | nil =>
    intro ns ws h V
    obtain rfl := Option.some.inj h
    obtain rfl := V.nil_inv
    exact .nil
  | cons a l ih =>
    intro ns ws h V
    obtain ⟨v, r, rfl, V, Vs⟩ := V.cons_inv
    cases a with
    | int i =>
      obtain ⟨m, hl, h⟩ := obind_inv (show (isInts l).bind (fun m => some (i :: m)) = some ns from h)
      obtain rfl := Option.some.inj h
      obtain ⟨t, rfl⟩ := V.int_inv
      exact .cons _ _ (ih hl Vs)
    | _ => exact no_some h
theorem str_beq (a b : List Nat) : ((⟨a.toArray⟩ : Str) == ⟨b.toArray⟩) = decide (a = b) := by
  by_cases e : a = b
  · subst e; simp
  · have : ¬ (⟨a.toArray⟩ : Str) = ⟨b.toArray⟩ := fun q => e (by have := congrArg (fun x : Str => x.cps.toList) q; simpa using this)
    simp [e, this]
theorem isStrs_are {CR W} : ∀ {l ns ws}, isStrs l = some ns → VRs CR W l ws → StrsAre ws (ns.map fun x => ⟨x.toArray⟩) := by
  intro l
  induction l with
  | nil =>
    intro ns ws h V
    obtain rfl := Option.some.inj h
    obtain rfl := V.nil_inv
    exact .nil
  | cons a l ih =>
    intro ns ws h V
    obtain ⟨v, r, rfl, V, Vs⟩ := V.cons_inv
    cases a with
    | str i =>
      obtain ⟨m, hl, h⟩ := obind_inv (show (isStrs l).bind (fun m => some (i :: m)) = some ns from h)
      obtain rfl := Option.some.inj h
      obtain ⟨t, rfl⟩ := V.str_inv
      exact .cons _ _ (ih hl Vs)
    | _ => exact no_some h
theorem none_at {CR W} {A : Around} {s : Shared} : ∀ {l ws b}, anyNone l = some b → VRs CR W l ws → (∀ y ∈ ws, SeqAt.EqAt A s y .none (y == .none)) ∧ ws.any (fun y => y == .none) = b := by
  intro l
  induction l with
  | nil =>
    intro ws b h V
    obtain rfl := Option.some.inj h
    obtain rfl := V.nil_inv
    exact ⟨fun y hy => absurd hy List.not_mem_nil, rfl⟩
  | cons a l ih =>
    intro ws b h V
    obtain ⟨v, r, rfl, V, Vs⟩ := V.cons_inv
    cases a with
    | none =>
      obtain ⟨m, hl, h⟩ := obind_inv (show (anyNone l).bind (fun _ => some true) = some b from h)
      obtain rfl := Option.some.inj h
      obtain rfl := V.none_inv
      exact ⟨List.forall_mem_cons.mpr ⟨SeqAt.EqAt.same _, (ih hl Vs).1⟩, rfl⟩
    | str i =>
      obtain ⟨t, rfl⟩ := V.str_inv
      obtain ⟨h1, h2⟩ := ih (b := b) h Vs
      exact ⟨List.forall_mem_cons.mpr ⟨SeqAt.EqAt.str_none _ _, h1⟩, by rw [List.any_cons, h2]; rfl⟩
    | _ => exact no_some h

theorem VR.is_none {CR W a v} (h : VR CR W a v) : (v == .none) = isNone a := by cases h <;> rfl
theorem FB.ok.notSys (f : FB.ok fb c n) (R : RelF c fb W σ s) {i : Nat} {a : Addr} {o : Obj} (h : W.Mu[i]? = some (a, o)) (hc : o.cls ≠ .type "list") : (a == sysModules) = false :=
  (R.ns (a, o) (List.mem_of_getElem? h)).resolve_left hc

theorem dict_cls {K : Type} [DecidableEq K] {prog w} {knd : PySem.KeyKind prog w K} {o : Obj} {kvs : List (K × Value)} (h : o.IsDictOf knd kvs) : o.cls ≠ .type "list" := by
  obtain ⟨es, ep, h1, _⟩ := h
  intro e
  have := h1
  simp [Obj.ExactDict, e] at this

section
variable {u v : AV} {u' v' : Value} {b : Bool} {Qc Ec : Value → Shared → Prop}
theorem VR.ordC {f g} (U : VR c.CR W u u') (V : VR c.CR W v v') (h : ordC f g u v = some b) : (∃ x t y t', u' = .int x t ∧ v' = .int y t' ∧ f x y = b) ∨ (∃ x t y t', u' = .str ⟨x.toArray⟩ t ∧ v' = .str ⟨y.toArray⟩ t' ∧ g x y = b) := by
  cases u with
  | int x =>
    obtain ⟨t, rfl⟩ := U.int_inv
    obtain ⟨y, t', rfl, h⟩ := V.intV h
    exact .inl ⟨x, t, y, t', rfl, rfl, Option.some.inj h⟩
  | str x =>
    obtain ⟨t, rfl⟩ := U.str_inv
    obtain ⟨y, t', rfl, h⟩ := V.strV h
    exact .inr ⟨x, t, y, t', rfl, rfl, Option.some.inj h⟩
  | _ => exact no_some h
theorem VR.isC (U : VR c.CR W u u') (V : VR c.CR W v v') (h : isC u v = some b) : v' = .none ∧ (u' == .none) = b := by
  cases v with
  | none => exact ⟨V.none_inv, U.is_none.trans (Option.some.inj h)⟩
  | _ => exact no_some h
theorem snd_eq (f : FB.ok fb c n) (R : RelF c fb W σ s) (U : VR c.CR W u u') (V : VR c.CR W v v') (E : eqC u v σ = some b) (hq : Qc (.bool b) s) : wpAny (model c.prog c.w) fb.A (compareOp .Eq u' v') Qc Ec s := by
  cases u with
  | int x =>
    obtain ⟨t, rfl⟩ := U.int_inv
    obtain ⟨y, t', rfl, h⟩ := V.intV E
    obtain rfl := Option.some.inj h
    exact eq_int hq
  | str x =>
    obtain ⟨t, rfl⟩ := U.str_inv
    obtain ⟨y, t', rfl, h⟩ := V.strV E
    obtain rfl := Option.some.inj h
    exact eq_str (by rw [str_beq]; exact hq)
  | bool x =>
    obtain rfl := U.bool_inv
    obtain ⟨y, rfl, h⟩ := V.boolV E
    obtain rfl := Option.some.inj h
    exact eq_bool (by rw [show (x == y) = decide (x = y) by cases x <;> cases y <;> rfl]; exact hq)
  | obj i =>
    obtain ⟨j, V, h⟩ := V.objV E
    obtain ⟨l1, e1, h⟩ := listV_inv h
    obtain ⟨l2, e2, h⟩ := listV_inv h
    obtain ⟨n1, h1, h⟩ := obind_inv h
    obtain ⟨n2, h2, h⟩ := obind_inv h
    obtain rfl := Option.some.inj h
    obtain ⟨x, ws, k, A⟩ := lst_at R U e1
    obtain ⟨y, ws', k', B⟩ := lst_at R V e2
    rw [A.eq, B.eq]
    exact ke_eq_ints ⟨_, A.get, rfl, _, rfl⟩ ⟨_, B.get, rfl, _, rfl⟩ (isInts_are h1 A.vs) (isInts_are h2 B.vs) (by have := f.un; omega) hq
  | _ => exact no_some E
theorem snd_in (f : FB.ok fb c n) (R : RelF c fb W σ s) (U : VR c.CR W u u') (V : VR c.CR W v v') (E : inC u v σ = some b) (hq : ∀ s', RelF c fb W σ s' → Qc (.bool b) s') : wpAny (model c.prog c.w) fb.A (compareOp .In u' v') Qc Ec s := by
  cases u with
  | str x =>
    obtain ⟨t, rfl⟩ := U.str_inv
    cases v with
    | tup l =>
      obtain ⟨ys, hl, h⟩ := obind_inv (o := isStrs l) E
      obtain rfl := Option.some.inj h
      obtain ⟨a, ws, rfl, h1, h2⟩ := V.tup_inv
      refine in_tuple_strs (R.isTup f.stays h1) (isStrs_are hl h2) ?_
      rw [List.any_map]
      rw [show ((fun x => x == (⟨Array.mk _⟩ : Str)) ∘ fun x : List Nat => (⟨x.toArray⟩ : Str)) = fun y => decide (y = _) from funext fun y => str_beq _ _]
      exact hq _ R
    | obj i =>
      obtain ⟨es, e1, h⟩ := dictV_inv E
      obtain rfl := Option.some.inj h
      obtain ⟨y, o, kvs, A⟩ := dct_at R V e1
      rw [A.eq]
      exact kda_in R.N A.mem A.is (f.notSys R A.mu (dict_cls A.is)) (strs_is _ _) _ (A.vs.isSome _) (hq _ (R.tok _))
    | str y =>
      obtain rfl := Option.some.inj E
      obtain ⟨t', rfl⟩ := V.str_inv
      exact SB.contains (hq _ R)
    | _ => exact no_some E
  | none =>
    obtain rfl := U.none_inv
    obtain ⟨l, a, ws, rfl, h1, h2, h⟩ := V.lstV E
    obtain ⟨h3, h4⟩ := none_at (A := fb.A.in1) (s := s) h h2
    exact SeqAt.in_listAt _ (R.isList f.stays h1) (fun y hy => h3 y (by simpa using hy)) (by rw [show ws.toArray.any (fun y => y == .none) = ws.any (fun y => y == .none) by simp, h4]; exact hq _ R)
  | _ => exact no_some E
theorem snd_nin (f : FB.ok fb c n) (R : RelF c fb W σ s) (U : VR c.CR W u u') (V : VR c.CR W v v') (E : ninC u v σ = some b) (hq : ∀ s', RelF c fb W σ s' → Qc (.bool b) s') : wpAny (model c.prog c.w) fb.A (compareOp .NotIn u' v') Qc Ec s := by
  obtain ⟨x, t, rfl, E⟩ := U.strV E
  cases v with
  | obj i =>
    obtain ⟨es, e1, h⟩ := dictV_inv E
    obtain rfl := Option.some.inj h
    obtain ⟨y, o, kvs, A⟩ := dct_at R V e1
    rw [A.eq]
    exact kdg_notin R.N A.mem A.is (f.notSys R A.mu (dict_cls A.is)) (strs_is _ _) _ (A.vs.isSome _) (hq _ (R.tok _))
  | str y =>
    obtain rfl := Option.some.inj E
    obtain ⟨t', rfl⟩ := V.str_inv
    exact SB.notContains (hq _ R)
  | _ => exact no_some E
theorem snd_cmp {op : CmpOp} (f : FB.ok fb c n) (R : RelF c fb W σ s) (U : VR c.CR W u u') (V : VR c.CR W v v') (E : cmpop op u v σ = some b)
    (hq : ∀ s', RelF c fb W σ s' → Qc (.bool b) s') : wpAny (model c.prog c.w) fb.A (compareOp op u' v') Qc Ec s := by
  cases op with
  | Eq => exact snd_eq f R U V E (hq _ R)
  | NotEq =>
    rcases U.ordC V E with ⟨x, t, y, t', rfl, rfl, rfl⟩ | ⟨x, t, y, t', rfl, rfl, rfl⟩
    · exact ne_int (by rw [show (x != y) = decide (x ≠ y) from (decide_not (p := x = y)).symm]; exact hq _ R)
    · exact ne_str (by rw [bne, str_beq, ← decide_not]; exact hq _ R)
  | Lt =>
    rcases U.ordC V E with ⟨x, t, y, t', rfl, rfl, rfl⟩ | ⟨x, t, y, t', rfl, rfl, rfl⟩
    · exact lt_int (hq _ R)
    · exact P.lt_str (hq _ R)
  | LtE =>
    rcases U.ordC V E with ⟨x, t, y, t', rfl, rfl, rfl⟩ | ⟨x, t, y, t', rfl, rfl, rfl⟩
    · exact le_int (hq _ R)
    · exact P.le_str (hq _ R)
  | Gt =>
    rcases U.ordC V E with ⟨x, t, y, t', rfl, rfl, rfl⟩ | ⟨x, t, y, t', rfl, rfl, rfl⟩
    · exact gt_int (hq _ R)
    · exact P.gt_str (hq _ R)
  | GtE =>
    rcases U.ordC V E with ⟨x, t, y, t', rfl, rfl, rfl⟩ | ⟨x, t, y, t', rfl, rfl, rfl⟩
    · exact ge_int (hq _ R)
    · exact P.ge_str (hq _ R)
  | Is =>
    obtain ⟨rfl, e⟩ := U.isC V E
    exact is_none (by rw [e]; exact hq _ R)
  | IsNot =>
    obtain ⟨b', hb, h⟩ := obind_inv (o := isC u v) E
    obtain rfl := Option.some.inj h
    obtain ⟨rfl, e⟩ := U.isC V hb
    exact isNot_none (by rw [e]; exact hq _ R)
  | In => exact snd_in f R U V E hq
  | NotIn => exact snd_nin f R U V E hq
end
end
end
section
open PySem PySem.W PyProof.Rows PySem.Calls
section
variable {c : Cx} {fb : FB} {W W' : GW} {σ : St} {s : Shared} {n : Nat} {Ec : Value → Shared → Prop}

theorem idx_inv {α : Type} {l : List α} {i : Int} {a : α} (e : idx l i = some a) : -2 ^ 63 ≤ i ∧ i < 2 ^ 63 ∧ ((0 ≤ i ∧ l[i.toNat]? = some a) ∨ (i < 0 ∧ -(l.length : Int) ≤ i ∧ l[(i + l.length).toNat]? = some a)) := by
  unfold Mine.idx at e
  by_cases h0 : 0 ≤ i
  · rw [if_pos h0] at e
    by_cases h1 : i < 1000000
    · rw [if_pos h1] at e
      exact ⟨by omega, by omega, .inl ⟨h0, e⟩⟩
    · rw [if_neg h1] at e; exact no_some e
  · rw [if_neg h0] at e
    by_cases h1 : -(l.length : Int) ≤ i ∧ -1000000 ≤ i
    · rw [if_pos h1] at e
      exact ⟨by omega, by omega, .inr ⟨Int.not_le.mp h0, h1.1, e⟩⟩
    · rw [if_neg h1] at e; exact no_some e
theorem VRs.idx {CR W} {l ws} (h : VRs CR W l ws) {i : Int} {a : AV} (e : idx l i = some a) : ∃ v, VR CR W a v ∧ -2 ^ 63 ≤ i ∧ i < 2 ^ 63 ∧ ((0 ≤ i ∧ ws[i.toNat]? = some v) ∨ (i < 0 ∧ -(ws.length : Int) ≤ i ∧ ws[(i + ws.length).toNat]? = some v)) := by
  obtain ⟨h1, h2, h3⟩ := idx_inv e
  rcases h3 with ⟨h3, h4⟩ | ⟨h3, h4, h5⟩
  · obtain ⟨v, g1, g2⟩ := h.get h4
    exact ⟨v, g2, h1, h2, .inl ⟨h3, g1⟩⟩
  · obtain ⟨v, g1, g2⟩ := h.get h5
    exact ⟨v, g2, h1, h2, .inr ⟨h3, by rw [h.length]; exact h4, by rw [h.length]; exact g1⟩⟩

theorem ER.look_some {CR W es kvs} (h : ER CR W es kvs) {k : List Nat} {a : AV} (e : Mine.look k es = some a) : ∃ v, valueAt kvs ⟨k.toArray⟩ = some v ∧ VR CR W a v := by
  have := h.look k
  rw [e] at this; exact this
theorem seqIdx_nn {i : Int} {n : Nat} (h : 0 ≤ i) (h2 : i < n) : seqIndex? i n = some i.toNat := by
  unfold seqIndex?
  have h3 : ¬ i < 0 := by omega
  simp only [if_neg h3]
  rw [if_pos]
  rw [Bool.and_eq_true]; exact ⟨decide_eq_true h, decide_eq_true h2⟩
theorem seqIdx_neg {i : Int} {n : Nat} (h : i < 0) (h2 : -(n : Int) ≤ i) : seqIndex? i n = some (i + n).toNat := by
  unfold seqIndex?
  simp only [if_pos h]
  rw [if_pos]
  rw [Bool.and_eq_true]; exact ⟨decide_eq_true (by omega), decide_eq_true (by omega)⟩

theorem getItem_lst {l : Addr} {items : Array Value} {i : Int} {t : Tok} {v : Value} {Q : Value → Shared → Prop} (h : s.heap.IsList l items) (h1 : -2 ^ 63 ≤ i) (h2 : i < 2 ^ 63)
    (e : (0 ≤ i ∧ items.toList[i.toNat]? = some v) ∨ (i < 0 ∧ -(items.toList.length : Int) ≤ i ∧ items.toList[(i + items.toList.length).toNat]? = some v)) (q : Q v s) : wpAny (model c.prog c.w) fb.A (getItem (.ref l) (.int i t)) Q Ec s := by
  rcases e with ⟨e1, e2⟩ | ⟨e1, e2, e3⟩
  · exact wpAny_getItem_list h e1 h2 (by rw [← Array.getElem?_toList]; exact e2) q
  · exact wpAny_getItem_list_neg h e1 (by simpa using e2) h1 (by rw [← Array.getElem?_toList]; simpa using e3) q
theorem getItem_tup {l : Addr} {items : Array Value} {i : Int} {t : Tok} {v : Value} {Q : Value → Shared → Prop} (h : IsTup s.heap l items) (h1 : -2 ^ 63 ≤ i) (h2 : i < 2 ^ 63)
    (e : (0 ≤ i ∧ items.toList[i.toNat]? = some v) ∨ (i < 0 ∧ -(items.toList.length : Int) ≤ i ∧ items.toList[(i + items.toList.length).toNat]? = some v)) (q : Q v s) : wpAny (model c.prog c.w) fb.A (getItem (.ref l) (.int i t)) Q Ec s := by
  rcases e with ⟨e1, e2⟩ | ⟨e1, e2, e3⟩
  · have := (List.getElem?_eq_some_iff.mp e2).1
    exact getItem_tuple (j := i.toNat) h h1 h2 (seqIdx_nn e1 (by simp only [Array.length_toList] at this; omega)) (by rw [← Array.getElem?_toList]; exact e2) q
  · exact getItem_tuple (j := (i + items.size).toNat) h h1 h2 (seqIdx_neg e1 (by simpa using e2)) (by rw [← Array.getElem?_toList]; simpa using e3) q

section
variable {value slice : Expr} {u v r : AV} {u' v' : Value} {Q : KE} {Qc : Value → Shared → Prop}
theorem sub_lst {a : Addr} {ws : List Value} {l : List AV} {i : Int} {t : Tok} (R : RelF c fb W σ s) (h1 : s.heap.IsList a ws.toArray) (h2 : VRs c.CR W l ws) (E : idx l i = some r) (hs : ∀ o i, subscripted slice false o i = operate [o, i] (getItem o i)) (hq : PQ c fb W Q Qc) (q : Q r σ) :
    wpAny (model c.prog c.w) fb.A (subscriptTail value slice (.ref a) (.int i t)) Qc Ec s := by
  obtain ⟨v, V, e1, e2, e3⟩ := h2.idx E
  exact tail_any h1.typeIs slot_list_getitem.lookup (getItem_lst h1 e1 e2 e3 (hq _ _ _ _ _ R (.refl _) V q)) (hs _ _)
theorem sub_str {s0 : List Nat} {i : Int} {c0 : Nat} {t t' : Tok} (R : RelF c fb W σ s) (E : idx s0 i = some c0) (hs : ∀ o i, subscripted slice false o i = operate [o, i] (getItem o i)) (hq : PQ c fb W Q Qc) (q : Q (.str [c0]) σ) :
    wpAny (model c.prog c.w) fb.A (subscriptTail value slice (.str ⟨s0.toArray⟩ t) (.int i t')) Qc Ec s := by
  obtain ⟨e1, e2, e3⟩ := idx_inv E
  refine tail_any (typeIs_str _ _ _) slot_str_getitem.lookup (P.getItem_str (c := c0) ?_ ?_ (by have := hq _ _ _ _ _ (R.tok (s.toks + 1)) (.refl _) (VR.str (t := s.toks)) q; simpa using this)) (hs _ _)
  · rw [Bool.or_eq_false_iff]; exact ⟨decide_eq_false (Int.not_lt.mpr e1), decide_eq_false (Int.not_le.mpr e2)⟩
  · rcases e3 with ⟨h3, h4⟩ | ⟨h3, h4, h5⟩
    · have := (List.getElem?_eq_some_iff.mp h4).1
      rw [seqIdx_nn h3 (by simp only [Str.length, List.size_toArray]; omega)]
      simpa using h4
    · rw [seqIdx_neg h3 (by simp only [Str.length, List.size_toArray]; exact h4)]
      simpa [Str.length] using h5
theorem snd_sub (f : FB.ok fb c n) (R : RelF c fb W σ s) (U : VR c.CR W u u') (V : VR c.CR W v v') (E : subop u v σ = some r)
    (hs : ∀ o i, subscripted slice false o i = operate [o, i] (getItem o i)) (hq : PQ c fb W Q Qc) (q : Q r σ) : wpAny (model c.prog c.w) fb.A (subscriptTail value slice u' v') Qc Ec s := by
  cases u with
  | tup l =>
    obtain ⟨a, ws, rfl, h1, h2⟩ := U.tup_inv
    obtain ⟨i, t, rfl, E⟩ := V.intV E
    obtain ⟨v, V, e1, e2, e3⟩ := h2.idx E
    have ht := R.isTup f.stays h1
    exact tail_any ht.typeIs slot_tuple_getitem.lookup (getItem_tup ht e1 e2 e3 (hq _ _ _ _ _ R (.refl _) V q)) (hs _ _)
  | lst l =>
    obtain ⟨a, ws, rfl, h1, h2⟩ := U.lst_inv
    obtain ⟨i, t, rfl, E⟩ := V.intV E
    exact sub_lst R (R.isList f.stays h1) h2 E hs hq q
  | str x =>
    obtain ⟨t', rfl⟩ := U.str_inv
    obtain ⟨i, t, rfl, E⟩ := V.intV E
    obtain ⟨ch, hc, E⟩ := obind_inv E
    obtain rfl := Option.some.inj E
    exact sub_str R hc hs hq q
  | obj j =>
    cases v with
    | int i =>
      obtain ⟨t, rfl⟩ := V.int_inv
      obtain ⟨l, e1, E⟩ := listV_inv E
      obtain ⟨x, ws, k, A⟩ := lst_at R U e1
      rw [A.eq]
      exact sub_lst R ⟨_, A.get, rfl, _, rfl⟩ A.vs E hs hq q
    | str k =>
      obtain ⟨t, rfl⟩ := V.str_inv
      obtain ⟨es, x, o, kvs, A, E⟩ := rows_at R U E
      rw [A.eq]
      have hD := kda_dict R.N A.mem A.is
      obtain ⟨v, h1, h2⟩ := A.vs.look_some E
      exact tail_any hD.typeIs slot_dict_getitem.lookup (wpAny_getItem_of (strs_is _ _) hD.mapOf h1 (hq _ _ _ _ _ (R.tok _) (.refl _) h2 q)) (hs _ _)
    | _ => exact no_some E
  | _ => exact no_some E
end

/-! ### a slice -/
inductive PartR : Option AV → Value → Prop
  | none : PartR none .none
  | some {a v CR W} : VR CR W a v → PartR (some a) v

theorem VRs.cut {CR W l ws} (h : VRs CR W l ws) : ∀ a, VRs CR W (l.drop a) (ws.drop a) :=
  VRs.ind (P := fun l ws => ∀ a, VRs CR W (l.drop a) (ws.drop a)) (fun a => by rw [List.drop_nil, List.drop_nil]; exact .nil) (fun V r ih a => match a with
    | 0 => .cons V r
    | a + 1 => ih a) h
theorem VRs.takes {CR W l ws} (h : VRs CR W l ws) : ∀ a, VRs CR W (l.take a) (ws.take a) :=
  VRs.ind (P := fun l ws => ∀ a, VRs CR W (l.take a) (ws.take a)) (fun a => by rw [List.take_nil, List.take_nil]; exact .nil) (fun V r ih a => match a with
    | 0 => .nil
    | a + 1 => .cons V (ih a)) h

theorem snd_cut {value slice : Expr} {l : List AV} {ws : List Value} {x : Addr} {a b : Int} {ta tb : Tok} {Q : KE} {Qc : Value → Shared → Prop} (R : RelF c fb W σ s) (hl : s.heap.IsList x ws.toArray) (V : VRs c.CR W l ws)
    (hs : ∀ o i, subscripted slice false o i = operate [i, o] (getItem o i)) (h1 : 0 ≤ a) (h2 : a ≤ b) (h3 : b ≤ l.length) (h4 : l.length ≤ 1000000) (hq : PQ c fb W Q Qc) (q : Q (.lst (cutL l a.toNat b.toNat)) σ) :
    wpAny (model c.prog c.w) fb.A (subscriptTail value slice (.ref x) (.ref s.heap.objs.size)) Qc Ec { s with heap := s.heap.push { cls := .type "slice", data := .fields #[.int a ta, .int b tb, .none] } } := by
  have hlen := V.length
  refine tail_any (Heap.IsList.typeIs (s := { s with heap := s.heap.push { cls := .type "slice", data := .fields #[.int a ta, .int b tb, .none] } }) (hl.push _)) slot_list_getitem.lookup
    (wpAny_getItem_list_slice (hl.push _) (Heap.IsSliceOf.new ..) (.int _ _) (.int _ _) .none (by simp) ?_ (by rw [sizeLine_eq]; simp; omega)) (hs _ _)
  have N1 := News.push (R.F.push { cls := .type "slice", data := .fields #[.int a ta, .int b tb, .none] }) (R.N.grown fun _ _ e => Heap.get?_push_of_some _ e) { cls := .type "list", data := .seq (slicePick ws.toArray (some a) (some b) none) }
  have e : slicePick ws.toArray (some a) (some b) none = (cutL ws a.toNat b.toNat).toArray := by
    have := slicePick_run ws.toArray a.toNat b.toNat (by simp; omega) (by omega)
    rw [show ((a.toNat : Nat) : Int) = a by omega, show ((b.toNat : Nat) : Int) = b by omega] at this
    rw [this]; simp [cutL]
  rw [e] at N1 ⊢
  refine new_lst (tk := s.toks) R ((R.F.push _).push _) N1 (fun p hp => ?_) ((V.cut _).takes _) hq q
  have := R.below p hp
  show p.1 ≠ (s.heap.push _).objs.size
  rw [Heap.size_push]
  exact Nat.ne_of_lt (Nat.lt_succ_of_lt this)

theorem part_inv {v : Value} {α : Type} {f : Int → Option α} {lo : Option AV} {r : α} (h : PartR lo v) (E : partV f lo = some r) : ∃ i t, v = .int i t ∧ f i = some r := by
  cases h with
  | none => exact no_some E
  | some V => exact V.intV E
theorem snd_cutV {value slice : Expr} {l : List AV} {ws : List Value} {x : Addr} {r : AV} {lo hi : Option AV} {l' h' : Value} {Q : KE} {Qc : Value → Shared → Prop} (R : RelF c fb W σ s) (hl : s.heap.IsList x ws.toArray) (V : VRs c.CR W l ws) (LO : PartR lo l') (HI : PartR hi h') (E : cutV l lo hi = some r)
    (hs : ∀ o i, subscripted slice false o i = operate [i, o] (getItem o i)) (hq : PQ c fb W Q Qc) (q : Q r σ) :
    wpAny (model c.prog c.w) fb.A (subscriptTail value slice (.ref x) (.ref s.heap.objs.size)) Qc Ec { s with heap := s.heap.push { cls := .type "slice", data := .fields #[l', h', .none] } } := by
  obtain ⟨a, ta, rfl, E⟩ := part_inv LO E
  obtain ⟨b, tb, rfl, E⟩ := part_inv HI E
  obtain ⟨hc, rfl⟩ := guardO_inv E
  exact snd_cut R hl V hs hc.1 hc.2.1 hc.2.2.1 hc.2.2.2 hq q
theorem snd_slc {value slice : Expr} {u r : AV} {lo hi : Option AV} {u' l' h' : Value} {Q : KE} {Qc : Value → Shared → Prop} (f : FB.ok fb c n) (R : RelF c fb W σ s) (U : VR c.CR W u u') (LO : PartR lo l') (HI : PartR hi h') (E : slcop u lo hi σ = some r)
    (hs : ∀ o i, subscripted slice false o i = operate [i, o] (getItem o i)) (hq : PQ c fb W Q Qc) (q : Q r σ) :
    wpAny (model c.prog c.w) fb.A (subscriptTail value slice u' (.ref s.heap.objs.size)) Qc Ec { s with heap := s.heap.push { cls := .type "slice", data := .fields #[l', h', .none] } } := by
  cases u with
  | str x =>
    obtain ⟨t, rfl⟩ := U.str_inv
    cases LO with
    | some _ => exact no_some E
    | none =>
      obtain ⟨b, tb, rfl, E⟩ := part_inv HI E
      obtain ⟨hc, rfl⟩ := guardO_inv E
      refine slice_strN_ns R.F R.N (fun h' t' k F' N' => ?_) (hs _ _) (by intro r; cases value <;> rfl) (by rw [sizeLine_eq]; simp only [Str.length, List.size_toArray]; exact Nat.le_trans hc.2.2 (by decide))
      have e := eq_of_beq (slice_closes_toL (x := ⟨_⟩) hc.1 (by simp only [Str.length, List.size_toArray]; exact hc.2.1))
      rw [e]
      have := hq _ _ _ _ _ (R.to (tk := k) F' N') (.refl _) (VR.str (t := t')) q
      simpa using this
  | lst l =>
    obtain ⟨a, ws, rfl, h1, h2⟩ := U.lst_inv
    exact snd_cutV R (R.isList f.stays h1) h2 LO HI E hs hq q
  | obj j =>
    obtain ⟨l, e1, E⟩ := listV_inv E
    obtain ⟨x, ws, k, A⟩ := lst_at R U e1
    rw [A.eq]
    exact snd_cutV R ⟨_, A.get, rfl, _, rfl⟩ A.vs LO HI E hs hq q
  | _ => exact no_some E
end
end
section
open PySem PySem.W PyProof.Rows PySem.Calls
section
variable {c : Cx} {C : Ctr} {n : Nat} {ev : Env}

theorem behind_ok {op : CmpOp} {e : Expr} (h : ∀ a b p, e ≠ .Set a b p) : behindInMarks op e = false := by
  cases e with
  | Set a b p => exact absurd rfl (h a b p)
  | _ => rfl

noncomputable abbrev SEL (c : Cx) (C : Ctr) (n : Nat) (ev : Env) (es : List Expr) (xs : List X) : Prop := F2 (fun e x => SE c C n ev e x ∧ starEach [e] ev = [(false, eval e ev)]) es xs
noncomputable abbrev SEM (c : Cx) (C : Ctr) (n : Nat) (ev : Env) (es : List Expr) (xs : List X) : Prop := F2 (SE c C n ev) es xs

theorem ev_tup {es : List Expr} {xs : List X} {k pos} (h : SEL c C n ev es xs) : SE c C n ev (.Tuple es k pos) (.tup xs) := by
  intro fb k' ρ W σ s ex Q Qc Ec f eo R L E hq hx
  cases k' with
  | zero => exact E.elim
  | succ k' =>
    exact Tuple_ (ev_list f eo h R L E (fun vs avs σ' s' W' R' le V q => newTuple_N R'.F R'.N (fun h' F' N' => new_tup (tk := s'.toks) R' F' N' R'.fresh V (hq.le le) q.2) (by rw [sizeLine_eq, V.length]; have := q.1; omega)) hx)
theorem ev_lst {es : List Expr} {xs : List X} {pos} (h : SEL c C n ev es xs) : SE c C n ev (.List es pos) (.lst xs) := by
  intro fb k' ρ W σ s ex Q Qc Ec f eo R L E hq hx
  cases k' with
  | zero => exact E.elim
  | succ k' =>
    cases h with
    | nil =>
        exact List_ (wpAny_items_nil (newList_N R.F R.N (fun h' F' N' => new_obj (tk := s.toks) R F' N' R.fresh .nil hq E) (by rw [sizeLine_eq]; simp)))
    | cons h1 h2 =>
      replace E : seqL (evE C ex k' ρ) (_ :: _) σ fun vs σ' => vs.length ≤ 1000 ∧ Q (.lst vs) σ' := E
      exact List_ (ev_list f eo (.cons h1 h2) R L E (fun vs avs σ' s' W' R' le V q => newList_N R'.F R'.N (fun h' F' N' => new_lst (tk := s'.toks) R' F' N' R'.fresh V (hq.le le) q.2) (by rw [sizeLine_eq, V.length]; have := q.1; omega)) hx)
theorem ev_bin {op a b x y pos} (h1 : SE c C n ev a x) (h2 : SE c C n ev b y) : SE c C n ev (.BinOp a op b pos) (.bin op x y) := by
  intro fb k' ρ W σ s ex Q Qc Ec f eo R L E hq hx
  cases k' with
  | zero => exact E.elim
  | succ k' =>
    refine wpAny_BinOp (h1 _ _ _ _ _ _ _ _ _ _ f eo R L E (fun v av σ' s' W' R' le V E' => ?_) hx)
    refine h2 _ _ _ _ _ _ _ _ _ _ f eo R' (L.le R.cm le) E' (fun v' av' σ'' s'' W'' R'' le' V' E'' => ?_) (hx.le le)
    exact snd_binop f R'' (V.mono R''.cm le') V' E'' (hq.le (le.trans le'))

theorem truth_ok {A : Around} {a : AV} {v : Value} {b : Bool} {W : GW} {s : Shared} {Q : Bool → Shared → Prop} {Ec} (h : VR c.CR W a v) (e : truth a = some b) (q : Q b s) : wpAny (model c.prog c.w) A (truthy v) Q Ec s := by
  cases h with
  | none => cases e; exact truthy_none q
  | bool => cases e; exact wpAny_truthy_bool q
  | int => cases e; refine truthy_int ?_; rename_i i _; rw [show (i != 0) = decide (i ≠ 0) by by_cases h : i = 0 <;> simp [h]]; exact q
  | str => cases e
  | con => cases e
  | obj => cases e
  | tup => cases e
  | lst => cases e
  | clo => cases e
theorem ev_un {op a x pos} (h1 : SE c C n ev a x) : SE c C n ev (.UnaryOp op a pos) (.un op x) := by
  intro fb k' ρ W σ s ex Q Qc Ec f eo R L E hq hx
  cases k' with
  | zero => exact E.elim
  | succ k' =>
    refine wpAny_UnaryOp (h1 _ _ _ _ _ _ _ _ _ _ f eo R L E (fun v av σ' s' W' R' le V E' => ?_) hx)
    obtain ⟨r, hr, E'⟩ := osB_inv E'
    cases op with
    | USub =>
      cases av with
      | int i =>
        obtain rfl := Option.some.inj hr
        obtain ⟨t, rfl⟩ := V.int_inv
        exact neg_int (hq _ _ _ _ _ (R'.tok _) le .int E')
      | _ => exact no_some hr
    | Not =>
      obtain ⟨b, hb, hr⟩ := obind_inv (o := truth av) (f := fun b => some (AV.bool (!b))) hr
      obtain rfl := Option.some.inj hr
      exact not_of (truth_ok V hb (hq _ _ _ _ _ R' le .bool E'))
    | _ => exact no_some hr

theorem snd_chain {ex : St → Prop} {k : Nat} {pos : Pos} {fb : FB} {ρ : Loc} {Q : Bool → St → Prop} {Ec} (f : FB.ok fb c n) (eo : EvOk fb ev) {es : List Expr} {bs : List X} (h : SEM c C n ev es bs) : ∀ {ops : List CmpOp} {W : GW} {σ : St} {s : Shared} {u : AV} {u' : Value} {Qc : Value → Shared → Prop}, ops.length = es.length → RelF c fb W σ s → LocF c fb ev W ρ →
    VR c.CR W u u' → cmpL (evE C ex k ρ) u ops bs σ Q → PB c fb W Q (fun b s => Qc (.bool b) s) → PX c fb W ex Ec → wpAny (model c.prog c.w) fb.A (compareChain pos u' ops (evalEach es ev)) Qc Ec s := by
  induction h with
  | nil =>
    intro ops W σ s u u' Qc hl R L V E hq hx
    obtain rfl := List.length_eq_zero_iff.mp hl
    exact False.elim E
  | @cons e b es bs h r ih =>
    intro ops W σ s u u' Qc hl R L V E hq hx
    cases ops with
    | nil => cases hl
    | cons op ops =>
    cases r with
    | nil =>
      obtain rfl := List.length_eq_zero_iff.mp (Nat.succ.inj hl)
      refine chain_last (h _ _ _ _ _ _ _ _ _ _ f eo R L E (fun v av σ' s' W' R' le V' E' => ?_) hx)
      obtain ⟨b, hb, E'⟩ := osB_inv E'
      exact snd_cmp f R' (V.mono R.cm le) V' hb fun s'' R'' => hq _ _ _ _ R'' le E'
    | cons h' r =>
      cases ops with
      | nil => cases hl
      | cons op' ops =>
      refine chain_link (h _ _ _ _ _ _ _ _ _ _ f eo R L E (fun v av σ' s' W' R' le V' E' => ?_) hx)
      obtain ⟨b, hb, E'⟩ := osB_inv E'
      refine snd_cmp f R' (V.mono R.cm le) V' hb fun s'' R'' => wpAny_truthy_bool ?_
      cases b with
      | false => exact hq _ _ _ _ R'' le (sel_false.mp E')
      | true => exact ih (Nat.succ.inj hl) R'' (L.le R.cm le) V' (sel_true.mp E') (hq.le le) (hx.le le)
theorem snd_test {ex : St → Prop} {k : Nat} {pos : Pos} {fb : FB} {ρ : Loc} {Q : Bool → St → Prop} {Ec} (f : FB.ok fb c n) (eo : EvOk fb ev) {es : List Expr} {bs : List X} (h : SEM c C n ev es bs) : ∀ {ops : List CmpOp} {W : GW} {σ : St} {s : Shared} {u : AV} {u' : Value} {Qc : Bool → Shared → Prop}, ops.length = es.length → RelF c fb W σ s → LocF c fb ev W ρ →
    VR c.CR W u u' → cmpL (evE C ex k ρ) u ops bs σ Q → PB c fb W Q Qc → PX c fb W ex Ec → wpAny (model c.prog c.w) fb.A (testChain pos u' ops (evalEach es ev)) Qc Ec s := by
  induction h with
  | nil =>
    intro ops W σ s u u' Qc hl R L V E hq hx
    obtain rfl := List.length_eq_zero_iff.mp hl
    exact False.elim E
  | @cons e b es bs h r ih =>
    intro ops W σ s u u' Qc hl R L V E hq hx
    cases ops with
    | nil => cases hl
    | cons op ops =>
    cases r with
    | nil =>
      obtain rfl := List.length_eq_zero_iff.mp (Nat.succ.inj hl)
      refine test_last (h _ _ _ _ _ _ _ _ _ _ f eo R L E (fun v av σ' s' W' R' le V' E' => ?_) hx)
      obtain ⟨b, hb, E'⟩ := osB_inv E'
      exact snd_cmp f R' (V.mono R.cm le) V' hb fun s'' R'' => wpAny_truthy_bool (hq _ _ _ _ R'' le E')
    | cons h' r =>
      cases ops with
      | nil => cases hl
      | cons op' ops =>
      refine test_link (h _ _ _ _ _ _ _ _ _ _ f eo R L E (fun v av σ' s' W' R' le V' E' => ?_) hx)
      obtain ⟨b, hb, E'⟩ := osB_inv E'
      refine snd_cmp f R' (V.mono R.cm le) V' hb fun s'' R'' => wpAny_truthy_bool ?_
      cases b with
      | false => exact hq _ _ _ _ R'' le (sel_false.mp E')
      | true => exact ih (Nat.succ.inj hl) R'' (L.le R.cm le) V' (sel_true.mp E') (hq.le le) (hx.le le)
theorem last_ok : ∀ {ops : List CmpOp} {rs : List Expr}, (∀ e ∈ rs, ∀ a b p, e ≠ .Set a b p) → lastMarks ops rs = false
  | [], [], _ => rfl
  | [], _ :: _, _ => rfl
  | [_], [], _ => rfl
  | _ :: _ :: _, [], _ => rfl
  | [op], [e], h => behind_ok (h e (.head _))
  | [op], _ :: _ :: _, h => rfl
  | op :: op' :: ops, e :: r, h => by
    show lastMarks (op' :: ops) r = false
    exact last_ok fun x hx => h x (.tail _ hx)

theorem ev_cmp {a : Expr} {x : X} {ops : List CmpOp} {rs : List Expr} {bs : List X} {pos} (h1 : SE c C n ev a x) (h2 : SEM c C n ev rs bs) (hl : ops.length = rs.length) (h0 : ops ≠ []) (hn : ∀ e ∈ rs, ∀ a b p, e ≠ .Set a b p) : SE c C n ev (.Compare a ops rs pos) (.cmp x ops bs) := by
  intro fb k' ρ W σ s ex Q Qc Ec f eo R L E hq hx
  cases k' with
  | zero => exact E.elim
  | succ k' =>
    have step : ∀ v av σ' s' W', RelF c fb W' σ' s' → W.Le W' → VR c.CR W' av v → cmpL (evE C ex k' ρ) av ops bs σ' (fun b σ'' => Q (.bool b) σ'') → wpAny (model c.prog c.w) fb.A (compareChain pos v ops (evalEach rs ev)) Qc Ec s' := fun v av σ' s' W' R' le V E' =>
      snd_chain f eo h2 hl R' (L.le R.cm le) V E' (fun b σ'' s'' W'' R'' le' q => hq _ _ _ _ _ R'' (le.trans le') .bool q) (hx.le le)
    rcases ops with _ | ⟨op, _ | ⟨op', ops⟩⟩
    · exact absurd rfl h0
    · rcases rs with _ | ⟨r, _ | _⟩
      · cases hl
      · obtain ⟨b, m, rfl, g1, g2⟩ := h2.cons_inv
        obtain rfl := g2.nil_inv
        refine wpAny_Compare1 (h1 _ _ _ _ _ _ _ _ _ _ f eo R L E (fun v av σ' s' W' R' le V E' => ?_) hx) (behind_ok (hn _ (.head _)))
        refine g1 _ _ _ _ _ _ _ _ _ _ f eo R' (L.le R.cm le) E' (fun v' av' σ'' s'' W'' R'' le' V' E'' => ?_) (hx.le le)
        obtain ⟨b, hb, E''⟩ := osB_inv E''
        exact snd_cmp f R'' (V.mono R''.cm le') V' hb fun s₃ R₃ => hq _ _ _ _ _ R₃ (le.trans le') .bool E''
      · cases hl
    · rcases rs with _ | ⟨r, _ | ⟨r', rs⟩⟩
      · cases hl
      · cases hl
      · exact Compare_chain (h1 _ _ _ _ _ _ _ _ _ _ f eo R L E (fun v av σ' s' W' R' le V E' => step _ _ _ _ _ R' le V E') hx) (last_ok hn)
end
end
section
open PySem PySem.W PyProof.Rows PySem.Calls
section
variable {c : Cx} {C : Ctr} {n : Nat} {ev : Env}


theorem snd_bool {op : BoolOp} {ex : St → Prop} {k : Nat} {pos : Pos} {fb : FB} {ρ : Loc} {Q : KE} {Qc : Value → Shared → Prop} {Ec} (f : FB.ok fb c n) (eo : EvOk fb ev) {es : List Expr} {bs : List X} (h : SEM c C n ev es bs) : ∀ {W : GW} {σ : St} {s : Shared}, RelF c fb W σ s → LocF c fb ev W ρ →
    boolL (evE C ex k ρ) (op == .And) bs σ Q → PQ c fb W Q Qc → PX c fb W ex Ec → wpAny (model c.prog c.w) fb.A (eval (.BoolOp op es pos) ev) Qc Ec s := by
  induction h with
  | nil => intro W σ s R L E hq hx; exact False.elim E
  | @cons e b es bs h r ih =>
    intro W σ s R L E hq hx
    cases r with
    | nil => exact BoolOp_one (h _ _ _ _ _ _ _ _ _ _ f eo R L E hq hx)
    | @cons e' b' es bs h' r =>
      have step : ∀ v av σ' s' W', RelF c fb W' σ' s' → W.Le W' → VR c.CR W' av v → osB (fun d => sel (d == (op == .And)) (boolL (evE C ex k ρ) (op == .And) (b' :: bs) σ' Q) (Q av σ')) (truth av) →
          wpAny (model c.prog c.w) fb.A (truthy v) (fun b s₂ => if b = (op == .And) then wpAny (model c.prog c.w) fb.A (eval (.BoolOp op (e' :: es) pos) ev) Qc Ec s₂ else Qc v s₂) Ec s' := fun v av σ' s' W' R' le V E' => by
        obtain ⟨d, hb, E'⟩ := osB_inv E'
        refine truth_ok V hb ?_
        by_cases hbb : d = (op == .And)
        · rw [if_pos hbb]
          rw [hbb, beq_self_eq_true] at E'
          exact ih R' (L.le R.cm le) (sel_true.mp E') (hq.le le) (hx.le le)
        · rw [if_neg hbb]
          rw [show (d == (op == .And)) = false from beq_eq_false_iff_ne.mpr hbb] at E'
          exact hq _ _ _ _ _ R' le V (sel_false.mp E')
      cases op with
      | And => exact BoolOp_and (h _ _ _ _ _ _ _ _ _ _ f eo R L E (fun v av σ' s' W' R' le V E' => wpAny_mono (step v av σ' s' W' R' le V E') (fun b s₂ h => by cases b <;> exact h) (fun _ _ h => h)) hx)
      | Or => exact BoolOp_or (h _ _ _ _ _ _ _ _ _ _ f eo R L E (fun v av σ' s' W' R' le V E' => wpAny_mono (step v av σ' s' W' R' le V E') (fun b s₂ h => by cases b <;> exact h) (fun _ _ h => h)) hx)
theorem ev_bool {op es bs pos} (h : SEM c C n ev es bs) : SE c C n ev (.BoolOp op es pos) (.bool op bs) := by
  intro fb k' ρ W σ s ex Q Qc Ec f eo R L E hq hx
  cases k' with
  | zero => exact E.elim
  | succ k' =>
    exact snd_bool f eo h R L E hq hx
theorem ev_ite {t a b x y z pos} (h1 : ST c C n ev t x) (h2 : SE c C n ev a y) (h3 : SE c C n ev b z) : SE c C n ev (.IfExp t a b pos) (.ite x y z) := by
  intro fb k' ρ W σ s ex Q Qc Ec f eo R L E hq hx
  cases k' with
  | zero => exact E.elim
  | succ k' =>
    refine IfExp_ (h1 _ _ _ _ _ _ _ _ _ _ _ f eo R L E rfl (fun b σ' s' W' R' le E' => ?_) hx)
    cases b with
    | true => exact h2 _ _ _ _ _ _ _ _ _ _ f eo R' (L.le R.cm le) (sel_true.mp E') (hq.le le) (hx.le le)
    | false => exact h3 _ _ _ _ _ _ _ _ _ _ f eo R' (L.le R.cm le) (sel_false.mp E') (hq.le le) (hx.le le)
theorem ev_sub {a b x y pos} (h1 : SE c C n ev a x) (h2 : SE c C n ev b y) (hs : ∀ o i, subscripted b false o i = operate [o, i] (getItem o i)) : SE c C n ev (.Subscript a b pos) (.sub x y) := by
  intro fb k' ρ W σ s ex Q Qc Ec f eo R L E hq hx
  cases k' with
  | zero => exact E.elim
  | succ k' =>
    refine Subscript_ (h1 _ _ _ _ _ _ _ _ _ _ f eo R L E (fun v av σ' s' W' R' le V E' => ?_) hx)
    refine h2 _ _ _ _ _ _ _ _ _ _ f eo R' (L.le R.cm le) E' (fun v' av' σ'' s'' W'' R'' le' V' E'' => ?_) (hx.le le)
    obtain ⟨r, hr, E''⟩ := osB_inv E''
    exact snd_sub f R'' (V.mono R''.cm le') V' hr hs (hq.le (le.trans le')) E''

/-- a part of a slice -/
noncomputable def SO (c : Cx) (C : Ctr) (n : Nat) (ev : Env) (e : Option Expr) (x : Option X) : Prop := match e, x with
  | none, none => True
  | some e, some x => SE c C n ev e x
  | _, _ => False
theorem snd_part {e x} (h : SO c C n ev e x) {ex : St → Prop} {k : Nat} {fb : FB} {ρ : Loc} {W : GW} {σ : St} {s : Shared} {Q : Option AV → St → Prop} {Qc : Value → Shared → Prop} {Ec} (f : FB.ok fb c n) (eo : EvOk fb ev) (R : RelF c fb W σ s) (L : LocF c fb ev W ρ) (E : evO C ex k ρ x σ Q)
    (hq : ∀ v av σ' s' W', RelF c fb W' σ' s' → W.Le W' → (match av with | none => v = .none | some a => VR c.CR W' a v) → Q av σ' → Qc v s') (hx : PX c fb W ex Ec) : wpAny (model c.prog c.w) fb.A (evalPart e ev) Qc Ec s := by
  cases k with
  | zero => exact E.elim
  | succ k =>
    cases e with
    | none => cases x with
      | none => exact wpAny_evalPart_none (hq .none none σ s W R (.refl _) rfl E)
      | some => exact h.elim
    | some e => cases x with
      | none => exact h.elim
      | some x =>
        exact wpAny_evalPart_some (h _ _ _ _ _ _ _ _ _ _ f eo R L E (fun v av σ' s' W' R' le V q => hq v (some av) σ' s' W' R' le V q) hx)
theorem ev_slc {a x lo hi l h pos pos'} (h1 : SE c C n ev a x) (h2 : SO c C n ev lo l) (h3 : SO c C n ev hi h) : SE c C n ev (.Subscript a (.Slice lo hi none pos') pos) (.slc x l h) := by
  intro fb k' ρ W σ s ex Q Qc Ec f eo R L E hq hx
  cases k' with
  | zero => exact E.elim
  | succ k' =>
    refine Subscript_ (h1 _ _ _ _ _ _ _ _ _ _ f eo R L E (fun v av σ' s' W' R' le V E' => ?_) hx)
    refine wpAny_Slice (snd_part h2 f eo R' (L.le R.cm le) E' (fun v₁ av₁ σ₁ s₁ W₁ R₁ le₁ V₁ E₁ => ?_) (hx.le le))
    refine snd_part h3 f eo R₁ (L.le R.cm (le.trans le₁)) E₁ (fun v₂ av₂ σ₂ s₂ W₂ R₂ le₂ V₂ E₂ => ?_) (hx.le (le.trans le₁))
    refine wpAny_evalPart_none ?_
    obtain ⟨r, hr, E₂⟩ := osB_inv E₂
    refine snd_slc f R₂ (V.mono R'.cm (le₁.trans le₂)) ?_ ?_ hr (fun o i => rfl) (hq.le (le.trans (le₁.trans le₂))) E₂
    · cases av₁ with
      | none => cases V₁; exact .none
      | some a => exact .some (V₁.mono R₁.cm le₂)
    · cases av₂ with
      | none => cases V₂; exact .none
      | some a => exact .some V₂
end
end
section
open PySem PySem.W PyProof.Rows PySem.Calls
section
variable {c : Cx} {C : Ctr} {n : Nat} {ev : Env}

theorem base_ok {o : Expr} {name : Str} {env : Env} {whole : Sem Value} (h : notCall o = true) : attributeBase o name env whole = whole := by
  cases o <;> first | rfl | cases h
theorem meth_eq {o : Expr} {name : Str} {apos pos : Pos} {args : List Expr} {env : Env} (h1 : notCall o = true) (h2 : apos.endLine = pos.line) (h3 : methodCallForm args.length (backTo pos (starEach args env)) [] = true) :
    eval (.Call (.Attribute o name apos) args [] pos) env = (do
      let ov ← eval o env
      standAt apos.atName
      let (f, first) ← holding [ov] (getMethod ov name (do return (← importBound o env).getD true))
      callWith pos f first (backTo pos (starEach args env)) []) := by
  show (do let ov ← attributeBase o name env (eval o env); standAt apos.atName; methodCall o name apos pos env ov (args.length + 0) (backTo pos (starEach args env)) []) = _
  rw [base_ok h1]
  congr 1
  funext ov
  congr 1
  funext u
  unfold methodCall
  rw [Nat.add_zero, h3]
  unfold calleeOf methodCallPos
  rw [h2]
  simp only [Bool.not_true, beq_self_eq_true, Bool.or_true, if_true]
  rfl

theorem AR.look {CR W} {es ds} (h : AR CR W es ds) (k) : (match look k es with | some a => ∃ v, getL ⟨k.toArray⟩ ds = some (some v) ∧ VR CR W a v | none => getL ⟨k.toArray⟩ ds = some none) := by
  induction h with
  | nil => rfl
  | @cons k₁ a v l ws hsh t V _ ih =>
    rw [look_cons]
    unfold getL
    by_cases e : k = k₁
    · subst e
      rw [if_pos rfl]
      exact ⟨_, by simp [Value.isStr], V⟩
    · rw [if_neg e]
      have e' : ((⟨k₁.toArray⟩ : Str) == ⟨k.toArray⟩) = false := beq_eq_false_iff_ne.mpr (str_ne e)
      rw [List.find?_cons_of_neg (by simp [Value.isStr, e']), List.any_cons]
      unfold getL at ih
      exact ih

inductive InstW (c : Cx) (fb : FB) (W : GW) (s : Shared) (v : Value) (K : Addr) (d : Nat) (es : List (List Nat × AV)) : Prop
  | mk (x dx : Addr) (ds : List DictEntry) (k : Nat) : v = .ref x → W.Mu[d]? = some (dx, dictOf ds k) → AR c.CR W es ds → PySem.W.InstAt s.heap x (instObj K dx) K (some (dictOf ds k)) → (dx, dictOf ds k) ∈ led W fb.Hid → InstW c fb W s v K d es
theorem inst_at {fb : FB} {W : GW} {σ : St} {s : Shared} (R : RelF c fb W σ s) {i : Nat} {v : Value} {K d : Addr} {es : List (List Nat × AV)} (V : VR c.CR W (.obj i) v) (e1 : σ[i]? = some (.inst K d)) (e2 : σ[d]? = some (.attrs es)) :
    InstW c fb W s v K d es := by
  obtain ⟨x, o, rfl, a1, a2, a3, a4⟩ := R.ref V e1
  obtain ⟨dx, o', b1, b2, b3, b4⟩ := R.at e2
  cases b2 with | attrs hA =>
  cases a2 with | inst h =>
  rw [GW.ad, List.getElem?_map, b1] at h
  have h := Option.some.inj h
  subst h
  exact ⟨x, dx, _, _, rfl, b1, hA, ⟨a4, rfl, rfl, b4⟩, b3⟩

theorem VR.handed {CR W a v} (h : VR CR W a v) : handedIn v = true := by cases h <;> rfl

theorem og_inv' {α : Type} {p : Prop} [Decidable p] {a : Option α} {b : α} (h : (if p then a else none) = some b) : p ∧ a = some b := by
  by_cases hp : p
  · rw [if_pos hp] at h; exact ⟨hp, h⟩
  · rw [if_neg hp] at h; exact no_some h
theorem ev_attr {o : Expr} {x : X} {nm : Str} {pos} (co : CxOk c) (h1 : SE c C n ev o x) (hn : notCall o = true) : SE c C n ev (.Attribute o nm pos) (.attr x (cp nm)) := by
  intro fb k' ρ W σ s ex Q Qc Ec f eo R L E hq hx
  cases k' with
  | zero => exact E.elim
  | succ k' =>
    refine Attribute_any_ (h1 _ _ _ _ _ _ _ _ _ _ f eo R L E (fun v av σ' s' W' R' le V E' => ?_) hx) (by
      show (do let o' ← attributeBase o nm ev (eval o ev); standAt pos.atName; let r ← holding [o'] (getAttr o' nm true); letTemporaryGo o o' r; pure r) = _
      rw [base_ok hn])
    · obtain ⟨r, hr, E'⟩ := osB_inv E'
      obtain ⟨i, V', hr⟩ := V.objV hr
      obtain ⟨K, d, e1, hr⟩ := instV_inv hr
      obtain ⟨hc, hr⟩ := og_inv' hr
      obtain ⟨es, e2, hr⟩ := attsV_inv hr
      obtain ⟨x, dx, ds, k, rfl, b1, hA, I, hm⟩ := inst_at R' V' e1 e2
      have := hA.look (cp nm)
      rw [hr] at this
      obtain ⟨v, g1, g2⟩ := this
      have en : (⟨(cp nm).toArray⟩ : Str) = nm := by simp [cp]
      obtain ⟨t1, t2⟩ := co.att _ _ hc.1 hc.2
      obtain ⟨u1, u2, _⟩ := co.own _ hc.1
      rw [en] at g1 t1
      exact get_own R'.F f.X I u1 u2 t1 rfl g1 g2.handed (hq _ _ _ _ _ (R'.tok _) le g2 E')

/-! ### conditions -/
theorem et_not {a x pos} (h : ST c C n ev a x) : ST c C n ev (.UnaryOp .Not a pos) (.un .Not x) := by
  intro fb k' ρ W σ s ex Q Qc Ec whole f eo R L E hw hq hx
  cases k' with
  | zero => exact E.elim
  | succ k' =>
    exact isTrue_not (h _ _ _ _ _ _ _ _ _ _ _ f eo R L E rfl (fun b σ' s' W' R' le q => hq _ _ _ _ R' le q) hx)
theorem evT_val {C : Ctr} {ex : St → Prop} {k : Nat} {ρ : Loc} {x : X} {σ : St} {Q : Bool → St → Prop} (hc : condX x = false) (E : evT C ex (k + 1) ρ x σ Q) : evE C ex k ρ x σ fun v σ' => osB (fun b => Q b σ') (truth v) := by
  cases x with
  | un op a => cases op with
    | Not => cases hc
    | _ => exact E
  | bool op es => cases hc
  | cmp a b c => cases hc
  | ite a b c => cases hc
  | _ => exact E
theorem et_val {e : Expr} {x : X} (h : SE c C n ev e x) (hc : condX x = false)
    (he : ∀ whole, PySem.isTrue e ev whole = (do let v ← whole; standAt e.pos; holding [v] (truthy v))) : ST c C n ev e x := by
  intro fb k' ρ W σ s ex Q Qc Ec whole f eo R L E hw hq hx
  cases k' with
  | zero => exact E.elim
  | succ k' =>
    subst hw
    refine wpAny_isTrue_value (h _ _ _ _ _ _ _ _ _ _ f eo R L (evT_val hc E) (fun v av σ' s' W' R' le V q => ?_) hx) (he _)
    obtain ⟨b, hb, q⟩ := osB_inv q
    exact truth_ok V hb (hq _ _ _ _ R' le q)
theorem et_cmp {a : Expr} {x : X} {ops : List CmpOp} {rs : List Expr} {bs : List X} {pos} (h1 : SE c C n ev a x) (h2 : SEM c C n ev rs bs) (hl : ops.length = rs.length) (h0 : ops ≠ []) (hn : ∀ e ∈ rs, ∀ a b p, e ≠ .Set a b p) : ST c C n ev (.Compare a ops rs pos) (.cmp x ops bs) := by
  intro fb k' ρ W σ s ex Q Qc Ec whole f eo R L E hw hq hx
  cases k' with
  | zero => exact E.elim
  | succ k' =>
    have step : ∀ v av σ' s' W', RelF c fb W' σ' s' → W.Le W' → VR c.CR W' av v → cmpL (evE C ex k' ρ) av ops bs σ' Q → wpAny (model c.prog c.w) fb.A (testChain pos v ops (evalEach rs ev)) Qc Ec s' := fun v av σ' s' W' R' le V E' =>
      snd_test f eo h2 hl R' (L.le R.cm le) V E' (hq.le le) (hx.le le)
    rcases ops with _ | ⟨op, _ | ⟨op', ops⟩⟩
    · exact absurd rfl h0
    · rcases rs with _ | ⟨r, _ | _⟩
      · cases hl
      · obtain ⟨b, m, rfl, g1, g2⟩ := h2.cons_inv
        obtain rfl := g2.nil_inv
        refine wpAny_isTrue_Compare1 (h1 _ _ _ _ _ _ _ _ _ _ f eo R L E (fun v av σ' s' W' R' le V E' => ?_) hx) (behind_ok (hn _ (.head _)))
        refine g1 _ _ _ _ _ _ _ _ _ _ f eo R' (L.le R.cm le) E' (fun v' av' σ'' s'' W'' R'' le' V' E'' => ?_) (hx.le le)
        obtain ⟨b, hb, E''⟩ := osB_inv E''
        exact snd_cmp f R'' (V.mono R''.cm le') V' hb fun s₃ R₃ => wpAny_truthy_bool (hq _ _ _ _ R₃ (le.trans le') E'')
      · cases hl
    · rcases rs with _ | ⟨r, _ | ⟨r', rs⟩⟩
      · cases hl
      · cases hl
      · exact isTrue_chain (h1 _ _ _ _ _ _ _ _ _ _ f eo R L E (fun v av σ' s' W' R' le V E' => step _ _ _ _ _ R' le V E') hx) (last_ok hn)
noncomputable abbrev STM (c : Cx) (C : Ctr) (n : Nat) (ev : Env) (es : List Expr) (xs : List X) : Prop := F2 (ST c C n ev) es xs
theorem snd_all {ex : St → Prop} {k : Nat} {pos : Pos} {whole : Sem Value} {fb : FB} {ρ : Loc} {Q : Bool → St → Prop} {Qc : Bool → Shared → Prop} {Ec} (f : FB.ok fb c n) (eo : EvOk fb ev) {es : List Expr} {bs : List X} (h : STM c C n ev es bs) : ∀ {W : GW} {σ : St} {s : Shared}, RelF c fb W σ s → LocF c fb ev W ρ →
    andL (evT C ex k ρ) bs σ Q → PB c fb W Q Qc → PX c fb W ex Ec → wpAny (model c.prog c.w) fb.A (PySem.isTrue (.BoolOp .And es pos) ev whole) Qc Ec s := by
  induction h with
  | nil => intro W σ s R L E hq hx; exact wpAny_pure (hq _ _ _ _ R (.refl _) E)
  | cons h _ ih =>
    intro W σ s R L E hq hx
    refine isTrue_and (h _ _ _ _ _ _ _ _ _ _ _ f eo R L E rfl (fun b σ' s' W' R' le E' => ?_) hx)
    cases b with
    | true => exact ih R' (L.le R.cm le) (sel_true.mp E') (hq.le le) (hx.le le)
    | false => exact hq _ _ _ _ R' le (sel_false.mp E')
theorem snd_any {ex : St → Prop} {k : Nat} {pos : Pos} {whole : Sem Value} {fb : FB} {ρ : Loc} {Q : Bool → St → Prop} {Qc : Bool → Shared → Prop} {Ec} (f : FB.ok fb c n) (eo : EvOk fb ev) {es : List Expr} {bs : List X} (h : STM c C n ev es bs) : ∀ {W : GW} {σ : St} {s : Shared}, RelF c fb W σ s → LocF c fb ev W ρ →
    orL (evT C ex k ρ) bs σ Q → PB c fb W Q Qc → PX c fb W ex Ec → wpAny (model c.prog c.w) fb.A (PySem.isTrue (.BoolOp .Or es pos) ev whole) Qc Ec s := by
  induction h with
  | nil => intro W σ s R L E hq hx; exact wpAny_pure (hq _ _ _ _ R (.refl _) E)
  | cons h _ ih =>
    intro W σ s R L E hq hx
    refine isTrue_or (h _ _ _ _ _ _ _ _ _ _ _ f eo R L E rfl (fun b σ' s' W' R' le E' => ?_) hx)
    cases b with
    | false => exact ih R' (L.le R.cm le) (sel_false.mp E') (hq.le le) (hx.le le)
    | true => exact hq _ _ _ _ R' le (sel_true.mp E')
theorem et_bool {op es bs pos} (h : STM c C n ev es bs) : ST c C n ev (.BoolOp op es pos) (.bool op bs) := by
  intro fb k' ρ W σ s ex Q Qc Ec whole f eo R L E hw hq hx
  cases k' with
  | zero => exact E.elim
  | succ k' =>
    cases op with
    | And => exact snd_all f eo h R L E hq hx
    | Or => exact snd_any f eo h R L E hq hx

/-! ### arguments -/
theorem stars_ok {es : List Expr} {xs : List X} {pos : Pos} (h : SEL c C n ev es xs) : (backTo pos (starEach es ev)).any (·.1) = false ∧ (backTo pos (starEach es ev)).all (!·.1) = true := by
  induction h with
  | nil => exact ⟨rfl, rfl⟩
  | cons h _ ih =>
    rw [star_cons h.2]
    exact ⟨ih.1, ih.2⟩

theorem snd_callWith {fb : FB} {ex : St → Prop} {k : Nat} {ρ : Loc} {W : GW} {σ : St} {s : Shared} {pos : Pos} {es : List Expr} {xs : List X} {f : Value} {first : List Value} {P : Heap → Prop} {Q : List AV → St → Prop} {Qc : Value → Shared → Prop} {Ec}
    (fo : FB.ok fb c n) (eo : EvOk fb ev) (R : RelF c fb W σ s) (L : LocF c fb ev W ρ) (h : SEL c C n ev es xs) (E : seqL (evE C ex k ρ) xs σ Q)
    (hP : ∀ h, P h → ∃ k, (k = Keeper.frame ∨ k = Keeper.machine ∨ k = Keeper.boundFrame) ∧ Looks (model c.prog c.w) h (keeperOf f) k)
    (hq : PL c fb W Q fun vs s' => P s'.heap ∧ wpAny (model c.prog c.w) fb.A (call f (first ++ vs)) Qc Ec s') (hx : PX c fb W ex Ec) :
    wpAny (model c.prog c.w) fb.A (callWith pos f first (backTo pos (starEach es ev)) []) Qc Ec s := by
  refine callWith_of (P := P) (by rw [(stars_ok h).1]; rfl) hP ?_
  cases h with
  | nil =>
    exact evalArgs_nil3 (hq _ _ _ _ _ R (.refl _) .nil E)
  | @cons e x es xs h r =>
    have hst := star_cons (es := es) h.2
    have := ev_list (pos := pos) fo eo (.cons h r) R L E hq hx
    rw [hst] at this ⊢
    exact evalArgs_plain this

theorem keeps_fn {M : Model} {a : Addr} : ∀ h : Heap, (∃ o fd, h.get? a = some o ∧ o.data = .func fd) → ∃ k, (k = Keeper.frame ∨ k = Keeper.machine ∨ k = Keeper.boundFrame) ∧ Looks M h (keeperOf (.ref a)) k := by
  rintro h ⟨⟨cl, d, dt, sl⟩, fd, h1, rfl⟩
  exact ⟨.frame, .inl rfl, (Looks.ld (part := none) h1).andThen .now⟩

theorem call_eq {func : Expr} {args : List Expr} {pos : Pos} (h : ∀ o a p, func ≠ .Attribute o a p) : eval (.Call func args [] pos) ev = (do
    let f ← eval func ev
    callWith pos f [] (backTo pos (starEach args ev)) (backToKw pos (keywordEach [] ev))) := by
  cases func <;> first | rfl | exact absurd rfl (h _ _ _)

theorem ev_call {func : Expr} {args : List Expr} {xf : X} {xs : List X} {pos} (co : CxOk c) (sc : SndC c C n) (h1 : SE c C n ev func xf) (h2 : SEL c C n ev args xs) (hn : ∀ o a p, func ≠ .Attribute o a p) : SE c C n ev (.Call func args [] pos) (.call xf xs) := by
  intro fb k' ρ W σ s ex Q Qc Ec f eo R L E hq hx
  cases k' with
  | zero => exact E.elim
  | succ k' =>
    refine Call_ (h1 _ _ _ _ _ _ _ _ _ _ f eo R L E (fun v av σ' s' W' R' le V E' => ?_) hx) (call_eq hn)
    cases V with
    | con =>
      rename_i a
      refine snd_callWith (P := fun h => c.K.In h ∧ keepIn c.K (.ref a) = true) f eo R' (L.le R.cm le) h2 E' (fun h hp => keeps_K hp.2 h hp.1) (fun vs avs σ'' s'' W'' R'' le' Vs q => ?_) (hx.le le)
      exact ⟨⟨f.X.keeps R''.F.keep, sc.keep _ _ _ _ _ q⟩, sc.call _ _ _ _ _ _ _ _ _ _ _ _ f R'' .top Vs q (hq.le (le.trans le')) (hx.le (le.trans le'))⟩
    | @clo l ws a hc hv =>
      refine snd_callWith (P := fun h => ∃ o fd, h.get? a = some o ∧ o.data = .func fd) f eo R' (L.le R.cm le) h2 E' keeps_fn (fun vs avs σ'' s'' W'' R'' le' Vs q => ?_) (hx.le le)
      have V' : VR c.CR W'' (.clo l) (.ref a) := (VR.clo hc hv).mono R''.cm le'
      obtain ⟨o, fd, g1, g2⟩ := co.cr _ _ _ hc
      refine ⟨⟨o, fd, (R''.N _ (List.mem_append_right _ (List.mem_append_right _ (le'.im _ g1)))).1, g2⟩, sc.call _ _ _ _ _ _ _ _ _ _ _ _ f R'' (.clo V') Vs q (hq.le (le.trans le')) (hx.le (le.trans le'))⟩
    | none => exact E'.elim
    | bool => exact E'.elim
    | int => exact E'.elim
    | str => exact E'.elim
    | obj => exact E'.elim
    | tup => exact E'.elim
    | lst => exact E'.elim
end
end
section
open PySem PySem.W PyProof.Rows PySem.Calls
section
variable {c : Cx} {C : Ctr} {n : Nat} {ev : Env} {fb : FB} {W W' : GW} {σ : St} {s : Shared} {Q : KE} {Qc Ec : Value → Shared → Prop}

theorem maxI_mem : ∀ (a : Int) (l : List Int), maxI a l ∈ a :: l
  | a, [] => by simp [maxI]
  | a, b :: r => by
    unfold maxI
    by_cases e : b > a
    · rw [if_pos e]
      exact .tail _ (maxI_mem b r)
    · rw [if_neg e]
      rcases List.mem_cons.mp (maxI_mem a r) with h | h
      · rw [h]; exact .head _
      · exact .tail _ (.tail _ h)
theorem maxI_ge : ∀ (a : Int) (l : List Int), ∀ x ∈ a :: l, x ≤ maxI a l
  | a, [], x, h => by simp at h; subst h; exact Int.le_refl _
  | a, b :: r, x, h => by
    have := maxI_ge (if b > a then b else a) r
    unfold maxI
    rcases List.mem_cons.mp h with rfl | h
    · exact Int.le_trans (by split <;> omega) (this _ (.head _))
    · rcases List.mem_cons.mp h with rfl | h
      · exact Int.le_trans (by split <;> omega) (this _ (.head _))
      · exact this _ (.tail _ h)
theorem minI_mem : ∀ (a : Int) (l : List Int), minI a l ∈ a :: l
  | a, [] => by simp [minI]
  | a, b :: r => by
    unfold minI
    by_cases e : b < a
    · rw [if_pos e]
      exact .tail _ (minI_mem b r)
    · rw [if_neg e]
      rcases List.mem_cons.mp (minI_mem a r) with h | h
      · rw [h]; exact .head _
      · exact .tail _ (.tail _ h)
theorem minI_le : ∀ (a : Int) (l : List Int), ∀ x ∈ a :: l, minI a l ≤ x
  | a, [], x, h => by simp at h; subst h; exact Int.le_refl _
  | a, b :: r, x, h => by
    have := minI_le (if b < a then b else a) r
    unfold minI
    rcases List.mem_cons.mp h with rfl | h
    · exact Int.le_trans (this _ (.head _)) (by split <;> omega)
    · rcases List.mem_cons.mp h with rfl | h
      · exact Int.le_trans (this _ (.head _)) (by split <;> omega)
      · exact this _ (.tail _ h)


theorem abs_eq (a : Int) : (if a < 0 then -a else a) = (a.natAbs : Int) := by split <;> omega
theorem max_eq (a b : Int) : (if b > a then b else a) = max a b := by omega
theorem min_eq (a b : Int) : (if b < a then b else a) = min a b := by omega
theorem VRs.of_get {CR W} : ∀ {l : List AV} {ws : List Value}, ws.length = l.length → (∀ (i : Nat) a v, l[i]? = some a → ws[i]? = some v → VR CR W a v) → VRs CR W l ws
  | [], [], _, _ => .nil
  | [], _ :: _, h, _ => by cases h
  | _ :: _, [], h, _ => by cases h
  | a :: l, v :: ws, h, g => .cons (g 0 a v rfl rfl) (VRs.of_get (Nat.succ.inj h) fun i a v h1 h2 => g (i + 1) a v h1 h2)

theorem new_dict (f : FB.ok fb c n) (R : RelF c fb W σ s) {D : Addr} {o : Obj} {es : List (List Nat × AV)} {kvs : List (Str × Value)} {h' : Heap} {tk : Nat}
    (F : Fr fb.h₀ fb.L h' fb.m) (N : News fb.h₀ fb.L h' ((D, o) :: led W fb.Hid)) (fr : ∀ p ∈ led W fb.Hid, p.1 ≠ D) (hs : (D == sysModules) = false) (V : ER c.CR W es kvs) (hd : o.IsDictOf (PySem.strKind c.prog c.w) kvs) (hq : PQ c fb W Q Qc)
    (q : Q (.obj σ.length) (σ ++ [.dict es])) : Qc (.ref D) { s with heap := h', toks := tk } := by
  refine hq _ _ _ _ _ (R.mut F N fr (.inr hs) (.dict (V.mono R.cm le_mut) hd)) le_mut (.obj ?_) q
  rw [← R.hr.length]
  simp [GW.ad]

theorem ER.length {CR W} : ∀ {es kvs}, ER CR W es kvs → kvs.length = es.length
  | _, _, .nil => rfl
  | _, _, .cons _ r => by rw [List.length_cons, List.length_cons, ER.length r]

theorem isTup_ok {a : AV} {v : Value} {b : Bool} (f : FB.ok fb c n) (R : RelF c fb W σ s) (V : VR c.CR W a v) (h : isTup a = some b) (hq : ∀ s', RelF c fb W σ s' → Qc (.bool b) s') : wpAny (model c.prog c.w) fb.A (call (.builtin "isinstance") [v, .type "tuple"]) Qc Ec s := by
  cases V with
  | none => cases h; exact IsiPair.NoneType_tuple (hq _ (R.tok _))
  | str => cases h; exact IsiPair.str_tuple (hq _ (R.tok _))
  | tup h1 h2 =>
    cases h
    obtain ⟨o, k, h3, h4, h5⟩ := R.seq f.stays h1
    exact IsiPair.tuple_tuple h3 h4 (hq _ R)
  | bool => cases h
  | int => cases h
  | con => cases h
  | obj => cases h
  | lst => cases h
  | clo => cases h

section
variable {as : List AV} {vs : List Value} {u : AV} {v : Value}
theorem snd_len (f : FB.ok fb c n) (R : RelF c fb W σ s) (U : VR c.CR W u v) (E : lenB σ Q u) (hq : PQ c fb W Q Qc) : wpAny (model c.prog c.w) fb.A (call BI.len.val [v]) Qc Ec s := by
  cases u with
  | str x =>
    obtain ⟨t, rfl⟩ := U.str_inv
    refine SBL.len (by have := E.1; simp only [Str.length, List.size_toArray]; omega) ?_
    have := hq _ _ _ _ _ (R.tok (s.toks + 1 + 1)) (.refl _) (VR.int (t := s.toks + 1)) E.2
    simpa [Str.length] using this
  | tup l =>
    obtain ⟨a, ws, rfl, h1, h2⟩ := U.tup_inv
    refine len_tuple (R.isTup f.stays h1) (by have := E.1; simp only [List.size_toArray, h2.length]; omega) ?_
    rw [List.size_toArray, h2.length]
    exact hq _ _ _ _ _ (R.tok _) (.refl _) .int E.2
  | lst l =>
    obtain ⟨a, ws, rfl, h1, h2⟩ := U.lst_inv
    refine call_len_list (R.isList f.stays h1) (by have := E.1; simp only [List.size_toArray, h2.length]; omega) ?_
    rw [List.size_toArray, h2.length]
    exact hq _ _ _ _ _ (R.tok _) (.refl _) .int E.2
  | obj i =>
    obtain ⟨l, e1, E⟩ := listB_inv E
    obtain ⟨x, ws, k, A⟩ := lst_at R U e1
    rw [A.eq]
    refine call_len_list ⟨_, A.get, rfl, _, rfl⟩ (by have := E.1; simp only [List.size_toArray, A.vs.length]; omega) ?_
    rw [List.size_toArray, A.vs.length]
    exact hq _ _ _ _ _ (R.tok _) (.refl _) .int E.2
  | _ => exact E.elim
theorem extL_inv {F : Int → List Int → Int} {o : Option (List Int)} (E : extL F σ Q o) : ∃ a r, o = some (a :: r) ∧ Q (.int (F a r)) σ := by
  rcases o with _ | _ | ⟨a, r⟩
  · exact E.elim
  · exact E.elim
  · exact ⟨a, r, rfl, E.2⟩
theorem ext_inv {F : Int → List Int → Int} {G : Int → Int → Int} (Vs : VRs c.CR W as vs) (E : extB F G σ Q as) :
    (∃ i v, VR c.CR W (.obj i) v ∧ vs = [v] ∧ ∃ l a r, σ[i]? = some (.list l) ∧ isInts l = some (a :: r) ∧ Q (.int (F a r)) σ) ∨ (∃ i t j t', vs = [.int i t, .int j t'] ∧ Q (.int (G i j)) σ) := by
  rcases as with _ | ⟨a, _ | ⟨b, _ | _⟩⟩
  · exact E.elim
  · obtain ⟨v, rfl, V⟩ := Vs.one_inv
    obtain ⟨i, V', E⟩ := V.objB E
    obtain ⟨l, e1, E⟩ := listB_inv E
    obtain ⟨a, r, e2, E⟩ := extL_inv E
    exact .inl ⟨i, v, V', rfl, l, a, r, e1, e2, E⟩
  · obtain ⟨v, u, rfl, V, U⟩ := Vs.two_inv
    obtain ⟨i, t, j, t', rfl, rfl, E⟩ := V.twoI U E
    exact .inr ⟨i, t, j, t', rfl, E⟩
  · exact E.elim
theorem snd_max (f : FB.ok fb c n) (R : RelF c fb W σ s) (Vs : VRs c.CR W as vs) (E : extB maxI max σ Q as) (hq : PQ c fb W Q Qc) : wpAny (model c.prog c.w) fb.A (call BI.max.val vs) Qc Ec s := by
  rcases ext_inv Vs E with ⟨i, v, V, rfl, l, a, r, e1, e2, E⟩ | ⟨i, t, j, t', rfl, E⟩
  · obtain ⟨x, ws, k, A⟩ := lst_at R V e1
    rw [A.eq]
    refine max_list_N f.hd R.F R.N ⟨_, A.get, rfl, _, rfl⟩ (isInts_are e2 A.vs) (by simp) fun h' M t tk F' N' hm hge => ?_
    obtain rfl : M = maxI a r := Int.le_antisymm (maxI_ge a r _ hm) (hge _ (maxI_mem a r))
    exact hq _ _ _ _ _ (R.to F' N') (.refl _) .int E
  · refine max_two_N f.hd R.F R.N fun h' tk F' N' => ?_
    rw [max_eq]
    exact hq _ _ _ _ _ (R.to F' N') (.refl _) .int E
theorem snd_min (f : FB.ok fb c n) (R : RelF c fb W σ s) (Vs : VRs c.CR W as vs) (E : extB minI min σ Q as) (hq : PQ c fb W Q Qc) : wpAny (model c.prog c.w) fb.A (call BI.min.val vs) Qc Ec s := by
  rcases ext_inv Vs E with ⟨i, v, V, rfl, l, a, r, e1, e2, E⟩ | ⟨i, t, j, t', rfl, E⟩
  · obtain ⟨x, ws, k, A⟩ := lst_at R V e1
    rw [A.eq]
    refine min_list_N f.hd R.F R.N ⟨_, A.get, rfl, _, rfl⟩ (isInts_are e2 A.vs) (by simp) fun h' M t tk F' N' hm hge => ?_
    obtain rfl : M = minI a r := Int.le_antisymm (hge _ (minI_mem a r)) (minI_le a r _ hm)
    exact hq _ _ _ _ _ (R.to F' N') (.refl _) .int E
  · refine min_two_N f.hd R.F R.N fun h' tk F' N' => ?_
    rw [min_eq]
    exact hq _ _ _ _ _ (R.to F' N') (.refl _) .int E
theorem size_new (R : RelF c fb W σ s) : s.heap.objs.size ≠ fb.L ∧ fb.h₀.get? s.heap.objs.size = none := by
  refine ⟨Nat.ne_of_gt R.F.ns.lt, ?_⟩
  cases e : fb.h₀.get? s.heap.objs.size with
  | none => rfl
  | some o => exact absurd (Heap.lt_size (R.F.keep _ _ e)) (Nat.lt_irrefl _)
theorem snd_list {x : List Nat} {t : Tok} (f : FB.ok fb c n) (R : RelF c fb W σ s) (E : x.length ≤ 1000 ∧ Q (.lst (x.map fun c => .str [c])) σ) (hq : PQ c fb W Q Qc) : wpAny (model c.prog c.w) fb.A (call BI.list.val [.str ⟨x.toArray⟩ t]) Qc Ec s := by
  refine call_list_str f.hd _ t (fun h' tk acc' c' hk hS' hacc => ?_) (by rw [sizeLine_eq]; simp only [List.size_toArray]; exact Nat.le_trans E.1 (by decide))
  refine new_lst (ws := acc'.toList) (k := c') R (R.F.keeps hk) (fun p hp => ?_) R.fresh (.of_get ?_ fun i a v h1 h2 => ?_) hq E.2
  · rcases List.mem_cons.mp hp with rfl | hp
    · exact ⟨by simpa using hS', size_new R⟩
    · exact ⟨hk _ _ (R.N p hp).1, (R.N p hp).2⟩
  · rw [List.length_map, Array.length_toList, hacc.1, List.size_toArray]
  · obtain ⟨c, u, hc, rfl⟩ := hacc.2 i v (by simpa using h2)
    simp only [List.getElem?_map, List.getElem?_toArray] at h1 hc
    rw [hc] at h1
    obtain rfl := Option.some.inj h1
    exact .str
theorem snd_dict {i : Nat} (f : FB.ok fb c n) (R : RelF c fb W σ s) (V : VR c.CR W (.obj i) v) (E : dictB (fun es => es.length ≤ 1000 ∧ Q (.obj σ.length) (σ ++ [.dict es])) σ[i]?) (hq : PQ c fb W Q Qc) : wpAny (model c.prog c.w) fb.A (call BI.dict.val [v]) Qc Ec s := by
  obtain ⟨es, e1, E⟩ := dictB_inv E
  obtain ⟨x, o, kvs, A⟩ := dct_at R V e1
  rw [A.eq]
  refine kt_call_dict (f.notSys R A.mu (dict_cls A.is)) (kda_dict R.N A.mem A.is) (by rw [A.vs.length, sizeLine_eq]; exact Nat.le_trans E.1 (by decide)) fun h' hD hs => ?_
  obtain ⟨o', g1, g2⟩ := Heap.dictOf_iff.mp hD
  have F1 := R.F.push { cls := .type "dict", data := .dict #[] }
  have N1 := News.push R.F R.N { cls := .type "dict", data := .dict #[] }
  have m1 := N1 _ (.head _)
  exact new_dict (tk := s.toks) f R (F1.change hs m1.2.1 m1.2.2) (News.setIn (own := []) N1 (fun p (h : p ∈ []) => absurd h List.not_mem_nil) R.fresh hs g1) R.fresh (R.notSys f.lim) A.vs g2 hq E.2
theorem snd_bi {b : BI} (f : FB.ok fb c n) (R : RelF c fb W σ s) (Vs : VRs c.CR W as vs) (E : bicall b as σ Q) (hq : PQ c fb W Q Qc) : wpAny (model c.prog c.w) fb.A (call b.val vs) Qc Ec s := by
  have one : ∀ {F : AV → Prop}, oneB F as → ∃ u v, vs = [v] ∧ VR c.CR W u v ∧ F u := fun h => by
    obtain ⟨u, rfl, h⟩ := oneB_inv h
    obtain ⟨v, rfl, V⟩ := Vs.one_inv
    exact ⟨u, v, rfl, V, h⟩
  cases b with
  | len =>
    obtain ⟨u, v, rfl, V, E⟩ := one E
    exact snd_len f R V E hq
  | abs =>
    obtain ⟨u, v, rfl, V, E⟩ := one E
    obtain ⟨a, t, rfl, E⟩ := V.intB E
    refine call_abs_int fun u tk => ?_
    rw [abs_eq]
    exact hq _ _ _ _ _ (R.tok _) (.refl _) .int E
  | max => exact snd_max f R Vs E hq
  | min => exact snd_min f R Vs E hq
  | chr =>
    obtain ⟨u, v, rfl, V, E⟩ := one E
    obtain ⟨a, t, rfl, E⟩ := V.intB E
    exact chr_of_range E.1 E.2.1 (hq _ _ _ _ _ (R.tok _) (.refl _) .str E.2.2)
  | ord =>
    obtain ⟨u, v, rfl, V, E⟩ := one E
    obtain ⟨a, t, rfl, E⟩ := V.strB E
    rcases a with _ | ⟨a, _ | _⟩
    · exact E.elim
    · exact P.ord_of_char (hq _ _ _ _ _ (R.tok _) (.refl _) .int E)
    · exact E.elim
  | divmod =>
    obtain ⟨u, v, rfl, E⟩ := twoB_inv E
    obtain ⟨v, u, rfl, V, U⟩ := Vs.two_inv
    obtain ⟨i, t, j, t', rfl, rfl, E⟩ := V.twoI U E
    exact divmod_N R.F R.N E.1 (fun h' F' N' => new_tup (tk := s.toks + 1 + 1) R F' N' R.fresh (.cons .int (.cons .int .nil)) hq E.2.2) (.inl (div_pylong E.2.1))
  | list =>
    obtain ⟨u, v, rfl, V, E⟩ := one E
    obtain ⟨a, t, rfl, E⟩ := V.strB E
    exact snd_list f R E hq
  | dict =>
    obtain ⟨u, v, rfl, V, E⟩ := one E
    obtain ⟨i, V', E⟩ := V.objB E
    exact snd_dict f R V' E hq
  | _ => exact False.elim E
end
end
end
section
open PySem PySem.W PyProof.Rows PySem.Calls
section
variable {c : Cx} {fb : FB} {M : Model} {A₀ A : Around} {E : Value → Shared → Prop} {s : Shared} {Q : Unit → Shared → Prop} {n : Nat}

theorem noteFrame_congr {e : Value} {env env' : Env} (h : env.frame = env'.frame) : noteFrame e env = noteFrame e env' := by
  unfold noteFrame PySem.frameOf
  rw [h]

/-- a new one is noted -/
theorem note_new {base g h : Heap} {outer : List Env} {env : Env} {L e : Addr} {m : Str → Option Value} {news : Led} {cls : Value} (B : Below A₀ base outer g) (hA : A.frames = some (env :: outer)) (hf : env.frame = some L) (hk : env.scope.kind = .function)
    (hx : NewE h s.heap e cls) (F : Fr g L h m) (N : News g L h news) (hQ : ∀ h' B a0, LedIn base news B → AnyW B (env :: outer) e cls a0 (rawInt L) h' → h.UpToSlots h' → Q () { s with heap := h' }) : wpAny M A (noteFrame (.ref e) env) Q E s := by
  have K' := pushX B F hf hk
  have hin : ∀ ev ∈ (env :: outer), ∀ b, ev.frame = some b → b ∈ (env :: outer).filterMap (·.frame) := fun ev he b hb => List.mem_filterMap.mpr ⟨ev, he, hb⟩
  have st : base.StaysIn (hideAll h ((env :: outer).filterMap (·.frame))) := fun b o q => hideAll_get _ (K'.stays b o q) fun hm => by
    rw [(K'.frames.mem hm).1] at q; cases q
  have hl : ∀ q ∈ news, (hideAll h ((env :: outer).filterMap (·.frame))).get? q.1 = some q.2 ∧ base.get? q.1 = none := fun q hq => by
    refine ⟨hideAll_get _ (N q hq).1 fun hm => ?_, fresh_of_stays B.stays (N q hq).2.2⟩
    obtain ⟨ev, he, hf'⟩ := List.mem_filterMap.mp hm
    rcases List.mem_cons.mp he with rfl | he
    · exact (N q hq).2.1 (Option.some.inj (hf'.symm.trans hf))
    · obtain ⟨o, ho, _⟩ := (B.frames.mem (List.mem_filterMap.mpr ⟨ev, he, hf'⟩)).2
      rw [(N q hq).2.2] at ho; cases ho
  obtain ⟨ob, vs, tp, he, hcls, hd, h1, h0⟩ := hx.there
  have hen : (hideAll h ((env :: outer).filterMap (·.frame))).get? e = none := by
    cases q : (hideAll h ((env :: outer).filterMap (·.frame))).get? e with
    | none => rfl
    | some o => have := of_hideAll _ q; rw [hx.new] at this; cases this
  unfold noteFrame
  simp only [hf]
  refine wpAny_bind (wpAny_field he hd h1 ?_)
  rw [if_neg (show ¬ ((Value.none != Value.none) = true) from by decide)]
  refine wpAny_entryW hA ((funFrames_hide K'.frames hin).of_keeps fun b o hb _ => ⟨o, hx.keep b o hb, rfl⟩) hf he (fun b o hb => hx.keep b o (of_hideAll _ hb)) hen hd (Array.getElem?_eq_some_iff.mp h1).1 h0 fun h' hN => ?_
  obtain ⟨k1, k2, k3, k4⟩ := hN
  rw [hcls] at k3
  exact hQ h' _ _ ⟨st, hl⟩ ⟨k1, hen, k2, k3⟩ ((Heap.UpToSlots.of_keeps hx.keep).trans k4)

theorem note_any {base : Heap} {env : Env} {outer : List Env} {L e : Addr} {cls a0 fl : Value} (hfr : A.frames = some (env :: outer)) (hf : env.frame = some L) (hh : AnyW base (env :: outer) e cls a0 fl s.heap)
    (h : ∀ h', AnyW base (env :: outer) e cls a0 (rawInt L) h' → s.heap.UpToSlots h' → Q () { s with heap := h' }) : wpAny M A (noteFrame (.ref e) env) Q E s := by
  obtain ⟨hkb, hen, hl, oe, vs, T, oT, ts, he, ⟨hcls, h0⟩, hd, h1, hnT, hTe, hT, hdT, h3⟩ := hh
  subst hcls
  unfold noteFrame
  simp only [hf]
  refine wpAny_bind (wpAny_field he hd h1 ?_)
  rw [if_pos (show (Value.ref T != Value.none) = true from by simp)]
  refine wpAny_bind (wpAny_field hT hdT h3 ?_)
  by_cases hq : (fl == rawInt L) = true
  · rw [if_pos hq]
    have hq' : fl = rawInt L := by
      cases fl <;> simp_all [rawInt]
    subst hq'
    exact wpAny_pure (h _ ⟨hkb, hen, hl, oe, vs, T, oT, ts, he, ⟨rfl, h0⟩, hd, h1, hnT, hTe, hT, hdT, h3⟩ (.refl _))
  rw [if_neg hq]
  refine wpAny_bind (wpAny_setField hT hdT (Array.getElem?_eq_some_iff.mp h3).1 ?_)
  have other : ∀ b, b ≠ T → (s.heap.update T (Obj.mapFields (·.setIfInBounds 3 Value.none))).get? b = s.heap.get? b := fun b hb => Heap.get?_update_other _ _ (Ne.symm hb)
  have noRecord : ∀ b o, s.heap.get? b = some o → (∀ vs, o.data ≠ .fields vs) → b ≠ T := fun b o hb hnf q => by
    rw [q, hT] at hb; injection hb with hb; subst hb; exact hnf ts hdT
  refine wpAny_entryW hfr (hl.of_keeps fun b o hb hnf => ⟨o, (other b (noRecord b o hb hnf)).trans hb, rfl⟩) hf ((other e (Ne.symm hTe)).trans he)
    (fun b o hbo => (other b fun q => by rw [q, hnT] at hbo; cases hbo).trans (hkb b o hbo)) hen hd (Array.getElem?_eq_some_iff.mp h1).1 h0
    fun h' ⟨x1, x2, x3, x4⟩ => h h' ⟨x1, hen, x2, x3⟩ fun b o hb hnf => x4 b o ((other b (noRecord b o hb hnf)).trans hb) hnf

/-- its flight is set -/
theorem fly_any {base : Heap} {l : List Env} {e : Addr} {cls a0 fl : Value} {f : Option Addr} (hh : AnyW base l e cls a0 fl s.heap)
    (h : ∀ h', AnyW base l e cls a0 (f.elim Value.none fun f => rawInt f) h' → s.heap.UpToSlots h' → Q () { s with heap := h' }) : wpAny M A (setFlight (.ref e) f) Q E s := by
  obtain ⟨hkb, hen, hl, oe, vs, T, oT, ts, he, hcls, hd, h1, hnT, hTe, hT, hdT, h3⟩ := hh
  have hsz3 : 3 < ts.size := (Array.getElem?_eq_some_iff.mp h3).1
  have other : ∀ b, b ≠ T → (s.heap.update T (Obj.mapFields (·.setIfInBounds 3 (f.elim Value.none fun f => rawInt f)))).get? b = s.heap.get? b :=
    fun b hb => Heap.get?_update_other _ _ (Ne.symm hb)
  have noRecord : ∀ b o, s.heap.get? b = some o → (∀ vs, o.data ≠ .fields vs) → b ≠ T := fun b o hb hnf q => by
    rw [q, hT] at hb; injection hb with hb; subst hb; exact hnf ts hdT
  unfold setFlight
  refine wpAny_bind (wpAny_field he hd h1 ?_)
  rw [if_pos (show (Value.ref T != Value.none) = true from by simp)]
  refine wpAny_setField hT hdT hsz3 (h _ ⟨fun b o hbo => (other b fun q => by rw [q, hnT] at hbo; cases hbo).trans (hkb b o hbo), hen,
    hl.of_keeps fun b o hb hnf => ⟨o, (other b (noRecord b o hb hnf)).trans hb, rfl⟩, ?_⟩ fun b o hb hnf => ⟨o.slots, (other b (noRecord b o hb hnf)).trans hb⟩)
  exact ⟨oe, vs, T, _, _, (other e (Ne.symm hTe)).trans he, hcls, hd, h1, hnT, hTe, Heap.get?_update_self _ hT (Obj.isFreed_of_fields (Obj.data_mapFields hdT _)), Obj.data_mapFields hdT _, by simp [hsz3]⟩

theorem way_note {l : Led} {e : Addr} {env : Env} {p k : Nat} (f : FB.ok fb c n) (w : Way c fb l e s.heap) (hf : env.frame = some fb.L)
    (h : ∀ h' g B a0, Fr fb.h₀ fb.L g fb.m → LedIn c.base l B → AnyW B (fb.env :: fb.outer) e (.ref c.RF) a0 (rawInt fb.L) h' → g.UpToSlots h' → Q () { s with heap := h' }) : wpAny M fb.A (noteFrame (.ref e) env) Q E s := by
  rw [noteFrame_congr (hf.trans f.hf.symm)]
  cases w with
  | made h₁ F N hx => exact note_new f.B f.fr f.hf f.hk hx F N fun h' B a0 x1 x2 x3 => h h' h₁ B a0 F x1 x2 x3
  | fly g B a0 fl F x1 x2 x3 => exact note_any f.fr f.hf x2 fun h' y1 y2 => h h' g B a0 F x1 y1 (x3.trans y2)
theorem way_noted {l : Led} {e : Addr} {env : Env} {Ec : Value → Shared → Prop} (f : FB.ok fb c n) (w : Way c fb l e s.heap) (hf : env.frame = some fb.L) (h : ∀ h', Way c fb l e h' → Ec (.ref e) { s with heap := h' }) : notedBy M fb.A env Ec (.ref e) s :=
  way_note (p := 0) (k := 0) f w hf fun h' g B a0 x1 x2 x3 x4 => h h' (.fly g B a0 _ x1 x2 x3 x4)
theorem way_back {l : Led} {e : Addr} {env env' : Env} {Ec : Value → Shared → Prop} (f : FB.ok fb c n) (w : Way c fb l e s.heap) (hf : env.frame = some fb.L) (h : ∀ h', Way c fb l e h' → Ec (.ref e) { s with heap := h' }) : notedBy M fb.A env (fun e s => cameBackBy M fb.A env' Ec e s) (.ref e) s := by
  refine way_note (p := 0) (k := 0) f w hf fun h' g B a0 x1 x2 x3 x4 => ?_
  obtain ⟨y1, y2, y3, oe, vs, T, oT, ts, he, hcls, hd, h1, r⟩ := x3
  show wpAny _ _ _ _ _ _
  refine wpAny_bind (wpAny_field he hd h1 ?_)
  rw [if_neg (show ¬ ((Value.ref T == Value.none) = true) from by simp)]
  exact fly_any (s := { s with heap := h' }) ⟨y1, y2, y3, oe, vs, T, oT, ts, he, hcls, hd, h1, r⟩ fun h₂ z1 z2 => h h₂ (.fly g B a0 _ x1 x2 z1 (x4.trans z2))
theorem way_leave {l : Led} {e : Addr} {Q : Unit → Shared → Prop} (f : FB.ok fb c n) (w : Way c fb l e s.heap)
    (h : ∀ h' B a0, LedIn c.base l B → AnyW B fb.outer e (.ref c.RF) a0 .none h' → fb.h₀.UpToSlots h' → Q () { s with heap := h' }) : wpAny M fb.A (leaving fb.env (.ref e)) Q E s := by
  unfold leaving
  refine wpAny_bind (way_note (p := 0) (k := 0) f w f.hf fun h' g B a0 x1 x2 x3 x4 => ?_)
  refine fly_any x3 fun h₂ z1 z2 => h h₂ B a0 x2 ⟨z1.1, z1.2.1, z1.2.2.1.2.2, z1.2.2.2⟩ ((Heap.UpToSlots.of_keeps x1.keep).trans (x4.trans z2))
end
end
section
open PySem PySem.W PyProof.Rows PySem.Calls
section
variable {c : Cx} {C : Ctr} {n : Nat} {fb : FB} {W W' : GW} {σ : St} {s : Shared} {Ec : Value → Shared → Prop} {ρ : Loc}

theorem FB.ok.set (f : FB.ok fb c n) (m) : FB.ok (fb.setm m) c n := ⟨⟨f.B, f.X, f.T, f.fr, f.hf, f.hk, f.lo, f.gl, f.bi, f.hd⟩, f.dp, f.un, f.ce⟩
theorem FB.ok.ev (f : FB.ok fb c n) : EvOk fb fb.env := ⟨f.hk, f.gl, f.bi, f.hf⟩

noncomputable def NPost (c : Cx) (fb : FB) (W : GW) (N : Loc → St → Prop) (Qc : Shared → Prop) : Prop := ∀ ρ' σ' s' W' m', RelF c (fb.setm m') W' σ' s' → W.Le W' → LocF c (fb.setm m') fb.env W' ρ' → N ρ' σ' → Qc s'
noncomputable def RPost (c : Cx) (fb : FB) (W : GW) (R : KE) (Qc : Value → Shared → Prop) : Prop := ∀ v av σ' s' W' m', RelF c (fb.setm m') W' σ' s' → W.Le W' → VR c.CR W' av v → R av σ' → Qc v s'
noncomputable def XPost (c : Cx) (fb : FB) (W : GW) (ex : St → Prop) (Ec : Value → Shared → Prop) : Prop := ∀ e σ' s' W' m', Rx c (fb.setm m') W' σ' e s' → W.Le W' → ex σ' → Ec e s'
theorem XPost.px {ex} (h : XPost c fb W ex Ec) : PX c fb W ex Ec := fun e σ' s' W' R le q => h e σ' s' W' fb.m R le q
theorem XPost.le {ex} (h : XPost c fb W ex Ec) (le : W.Le W') : XPost c fb W' ex Ec := fun e σ' s' W'' m' R l q => h e σ' s' W'' m' R (le.trans l) q
theorem NPost.le {N Qc} (h : NPost c fb W N Qc) (le : W.Le W') : NPost c fb W' N Qc := fun e σ' s' W'' m' R l q q' => h e σ' s' W'' m' R (le.trans l) q q'
theorem RPost.le {N Qc} (h : RPost c fb W N Qc) (le : W.Le W') : RPost c fb W' N Qc := fun e a σ' s' W'' m' R l q q' => h e a σ' s' W'' m' R (le.trans l) q q'
theorem XPost.set {ex m} (h : XPost c fb W ex Ec) : XPost c (fb.setm m) W ex Ec := h
theorem NPost.set {N Qc m} (h : NPost c fb W N Qc) : NPost c (fb.setm m) W N Qc := h
theorem RPost.set {N Qc m} (h : RPost c fb W N Qc) : RPost c (fb.setm m) W N Qc := h

theorem cp_ne {x : Str} {y : List Nat} (h : ¬ y = cp x) : ¬ (⟨y.toArray⟩ : Str) = x := fun q => h (by rw [← q]; simp [cp])

theorem snd_store {x : Str} {av : AV} {v : Value} {Q : Unit → Shared → Prop} (f : FB.ok fb c n) (R : RelF c fb W σ s) (L : LocF c fb fb.env W ρ) (hk : fb.env.kindOf x = some .local) (V : VR c.CR W av v)
    (hq : ∀ s' m', RelF c (fb.setm m') W σ s' → LocF c (fb.setm m') fb.env W ((cp x, av) :: ρ) → Q () s') : wpAny (model c.prog c.w) fb.A (storeName fb.env x v) Q Ec s := by
  have F := R.F
  rw [← f.lo] at F
  refine wpAny_storeName_local hk F.ns (fun h' hn hs => hq _ (fun y => if y = x then some v else fb.m y) (R.to (m' := fun y => if y = x then some v else fb.m y) (R.F.set (by rw [← f.lo]; exact hn) (by rw [← f.lo]; exact hs)) (R.N.set (by rw [← f.lo]; exact hs))) ?_) (by rw [f.hk]; rfl)
  intro y av' hy
  rw [look_cons] at hy
  by_cases e : y = cp x
  · rw [if_pos e] at hy
    cases hy
    subst e
    exact ⟨v, V, .loc (by simpa [cp] using hk) f.lo (by simp [cp, FB.setm])⟩
  · rw [if_neg e] at hy
    obtain ⟨v', V', N'⟩ := L y av' hy
    refine ⟨v', V', ?_⟩
    cases N' with
    | loc a b d => exact .loc a b (by simp only [FB.setm]; rw [if_neg (cp_ne e)]; exact d)
    | com o mc a b d g => exact .com o mc a b d g
    | cell k o a b d g => exact .cell k o a b d g

noncomputable def S1 (c : Cx) (C : Ctr) (n : Nat) (env : Env) (st : Stmt) (x : XS) : Prop := ∀ fb k ρ W σ s ex R N Qc Ec, FB.ok fb c n → fb.env = env → RelF c fb W σ s → LocF c fb fb.env W ρ → evS C ex R k x ρ σ N →
  NPost c fb W N (Qc .next) → RPost c fb W R (fun v => Qc (.ret v)) → XPost c fb W ex Ec → wpAny (model c.prog c.w) fb.A (exec st env) Qc Ec s
noncomputable def SS (c : Cx) (C : Ctr) (n : Nat) (env : Env) (st : List Stmt) (x : List XS) : Prop := ∀ fb k ρ W σ s ex R N Qc Ec, FB.ok fb c n → fb.env = env → RelF c fb W σ s → LocF c fb fb.env W ρ → evSs C ex R k x ρ σ N →
  NPost c fb W N (Qc .next) → RPost c fb W R (fun v => Qc (.ret v)) → XPost c fb W ex Ec → wpAny (model c.prog c.w) fb.A (execs st env) Qc Ec s

theorem ss_list {env : Env} {sts : List Stmt} {xs : List XS} (h : F2 (S1 c C n env) sts xs) : SS c C n env sts xs := by
  induction h with
  | nil =>
    intro fb k ρ W σ s ex R N Qc Ec f he Rl L E hn hr hx
    cases k with
    | zero => exact E.elim
    | succ k => exact wpAny_execs_nil (hn _ _ _ _ fb.m Rl (.refl _) L E)
  | cons h _ ih =>
    intro fb k ρ W σ s ex R N Qc Ec f he Rl L E hn hr hx
    cases k with
    | zero => exact E.elim
    | succ k =>
      refine wpAny_execs_cons (h fb k ρ W σ s ex R _ _ Ec f he Rl L E (fun ρ' σ' s' W' m' R' le L' E' => ?_) (fun v av σ' s' W' m' R' le V q => hr _ _ _ _ _ m' R' le V q) hx)
      exact ih (fb.setm m') k ρ' W' σ' s' ex R N Qc Ec (f.set m') he R' L' E' (hn.set.le le) (hr.set.le le) (hx.set.le le)

theorem s_ret {env : Env} {e x pos} (h : SE c C n env e x) : S1 c C n env (.Return (some e) pos) (.ret x) := by
  intro fb k ρ W σ s ex R N Qc Ec f he Rl L E hn hr hx
  subst he
  cases k with
  | zero => exact E.elim
  | succ k =>
    exact wpAny_Return_some (h _ _ _ _ _ _ _ _ _ _ f f.ev Rl L E (fun v av σ' s' W' R' le V q => hr _ _ _ _ _ fb.m R' le V q) hx.px)
theorem s_ret0 {env : Env} {pos} : S1 c C n env (.Return none pos) (.ret (.const .none)) := by
  intro fb k ρ W σ s ex R N Qc Ec f he Rl L E hn hr hx
  cases k with
  | zero => exact E.elim
  | succ k =>
    cases k with
    | zero => exact False.elim E
    | succ k =>
      exact wpAny_Return_none (hr _ _ _ _ _ fb.m Rl (.refl _) .none E)
theorem s_name {env : Env} {e : Expr} {x : Str} {y : X} {p pos} (h : SE c C n env e y) (hk : env.kindOf x = some .local) (hs : swapsWith e (some (.Name x p)) pos.line env = pure false) : S1 c C n env (.Assign [.Name x p] e pos) (.asg (.name (cp x)) y) := by
  intro fb k ρ W σ s ex R N Qc Ec f he Rl L E hn hr hx
  subst he
  cases k with
  | zero => exact E.elim
  | succ k =>
    exact wpAny_Assign_Name (h _ _ _ _ _ _ _ _ _ _ f f.ev Rl L E (fun v av σ' s' W' R' le V q => snd_store f R' (L.le Rl.cm le) hk V fun s'' m' R'' L'' => hn _ _ _ _ m' R'' le L'' q) hx.px) hs
theorem s_if {env : Env} {t : Expr} {a b : List Stmt} {x : X} {y z : List XS} {pos} (h : ST c C n env t x) (h1 : SS c C n env a y) (h2 : SS c C n env b z) : S1 c C n env (.If t a b pos) (.ite x y z) := by
  intro fb k ρ W σ s ex R N Qc Ec f he Rl L E hn hr hx
  subst he
  cases k with
  | zero => exact E.elim
  | succ k =>
    refine wpAny_If (h _ _ _ _ _ _ _ _ _ _ _ f f.ev Rl L E rfl (fun d σ' s' W' R' le q => ?_) hx.px)
    cases d with
    | true => exact h1 fb k ρ W' σ' s' ex R N Qc Ec f rfl R' (L.le Rl.cm le) (sel_true.mp q) (hn.le le) (hr.le le) (hx.le le)
    | false => exact h2 fb k ρ W' σ' s' ex R N Qc Ec f rfl R' (L.le Rl.cm le) (sel_false.mp q) (hn.le le) (hr.le le) (hx.le le)
theorem s_expr {env : Env} {e x pos} (h : SE c C n env e x) (hi : interactive env = false) (hs : swapsWith e none pos.line env = pure false) : S1 c C n env (.Expr e pos) (.expr x) := by
  intro fb k ρ W σ s ex R N Qc Ec f he Rl L E hn hr hx
  subst he
  cases k with
  | zero => exact E.elim
  | succ k =>
    exact wpAny_Expr_any (h _ _ _ _ _ _ _ _ _ _ f f.ev Rl L E (fun v av σ' s' W' R' le V q => hn _ _ _ _ fb.m R' le (L.le Rl.cm le) q.2) hx.px) hi hs
end
end
section
open PySem PySem.W PyProof.Rows PySem.Calls
section
variable {c : Cx} {C : Ctr} {n : Nat} {fb : FB} {W W' : GW} {σ : St} {s : Shared} {Ec : Value → Shared → Prop} {ρ : Loc}

theorem str_mk_inj {a b : List Nat} (h : (⟨a.toArray⟩ : Str) = ⟨b.toArray⟩) : a = b := by
  have := congrArg (fun x : Str => x.cps.toList) h; simpa using this

theorem ER.key_mem {CR W} {es kvs} (hh : ER CR W es kvs) {k} : Mine.look k es = none → ∀ p ∈ kvs, p.1 ≠ ⟨k.toArray⟩ := by
  induction hh with
  | nil => intro _ p hp; exact absurd hp List.not_mem_nil
  | @cons k₁ a v l ws V r ih =>
    intro h p hp
    rw [look_cons] at h
    by_cases e : k = k₁
    · rw [if_pos e] at h; cases h
    · rw [if_neg e] at h
      rcases List.mem_cons.mp hp with rfl | hp
      · exact str_ne e
      · exact ih h p hp
theorem map_same {k : Str} {v : Value} : ∀ {kvs : List (Str × Value)}, (∀ p ∈ kvs, p.1 ≠ k) → kvs.map (fun kv => if kv.1 = k then (kv.1, v) else kv) = kvs
  | [], _ => rfl
  | p :: r, h => by
    rw [List.map_cons, if_neg (h p (.head _)), map_same fun q hq => h q (.tail _ hq)]
theorem ER.put {CR W} {k : List Nat} {a : AV} {v : Value} (V : VR CR W a v) {es kvs} (h : ER CR W es kvs) : (kvs.map (·.1)).Nodup → ER CR W (dput k a es) (stored kvs ⟨k.toArray⟩ v) := by
  induction h with
  | nil => intro _; exact .cons V .nil
  | @cons k₁ b u l ws U r ih =>
    intro nd
    rw [List.map_cons, List.nodup_cons] at nd
    have ih := ih nd.2
    rw [dput_cons]
    unfold stored
    by_cases e : k = k₁
    · subst e
      rw [if_pos rfl, if_pos (by simp), List.map_cons, if_pos rfl, map_same]
      · exact .cons V r
      · exact fun p hp q => nd.1 (List.mem_map.mpr ⟨p, hp, q⟩)
    · have e' := str_ne e
      rw [if_neg e]
      unfold stored at ih
      have ha : ((⟨k₁.toArray⟩, u) :: ws).any (fun kv => decide (kv.1 = (⟨k.toArray⟩ : Str))) = ws.any (fun kv => decide (kv.1 = (⟨k.toArray⟩ : Str))) := by
        rw [List.any_cons, decide_eq_false e', Bool.false_or]
      rw [ha]
      by_cases hh : ws.any (fun kv => decide (kv.1 = (⟨k.toArray⟩ : Str))) = true
      · rw [if_pos hh] at ih ⊢
        rw [List.map_cons, if_neg e']
        exact .cons U ih
      · rw [if_neg hh] at ih ⊢
        exact .cons U ih
theorem AR.put {CR W} {k : List Nat} {a : AV} {v : Value} {hsh : Int} {t : Tok} (V : VR CR W a v) {es ds} (h : AR CR W es ds) : AR CR W (dput k a es) (putL ⟨k.toArray⟩ hsh (.str ⟨k.toArray⟩ t) v ds) := by
  induction h with
  | nil => exact .cons V .nil
  | @cons k₁ b u l ws hs tt U r ih =>
    rw [dput_cons]
    unfold putL
    by_cases e : k = k₁
    · subst e
      rw [if_pos rfl, if_pos (by simp [Value.isStr])]
      exact .cons V r
    · rw [if_neg e, if_neg (by simp only [Value.isStr, str_beq]; simp [Ne.symm e])]
      exact .cons U ih
theorem AR.length {CR W} {es ds} (h : AR CR W es ds) : ds.length = es.length := by
  induction h with
  | nil => rfl
  | cons _ _ ih => exact congrArg Nat.succ ih
theorem putL_len (k : Str) (hsh : Int) (key v : Value) : ∀ ds : List DictEntry, (putL k hsh key v ds).length ≤ ds.length + 1
  | [] => Nat.le_refl _
  | e :: r => by
    unfold putL
    split
    · simp
    · rw [List.length_cons, List.length_cons]; exact Nat.succ_le_succ (putL_len k hsh key v r)
theorem AR.getL_some {CR W es ds} (h : AR CR W es ds) (k : List Nat) : (getL ⟨k.toArray⟩ ds).isSome = true := by
  have := h.look k
  cases e : Mine.look k es with
  | some a => rw [e] at this; obtain ⟨v, e, _⟩ := this; rw [e]; rfl
  | none => rw [e] at this; rw [this]; rfl

theorem setL_of {CR W} {a : AV} {v : Value} (V : VR CR W a v) {l ws} (h : VRs CR W l ws) : ∀ (k : Nat), k < l.length → ∃ q, ki_setL ws k v = some q ∧ VRs CR W (l.set k a) q :=
  VRs.ind (P := fun l ws => ∀ (k : Nat), k < l.length → ∃ q, ki_setL ws k v = some q ∧ VRs CR W (l.set k a) q) (fun k h => absurd h (Nat.not_lt_zero _)) (fun x r ih k hk => match k, hk with
    | 0, _ => ⟨_, rfl, .cons V r⟩
    | k + 1, hk => by
      obtain ⟨q, h1, h2⟩ := ih k (Nat.lt_of_succ_lt_succ hk)
      exact ⟨_, by simp [ki_setL, h1], .cons x h2⟩) h

theorem setL_ofI {CR W} {a : AV} {v : Value} (V : VR CR W a v) {l ws} (h : VRs CR W l ws) {k : Int} (h0 : 0 ≤ k) (h1 : k < l.length) : ∃ q, ki_setL ws k.toNat v = some q ∧ VRs CR W (l.set k.toNat a) q := setL_of V h _ (by omega)

/-- a change at a number, with what follows -/
theorem snd_setop {u k v : AV} {u' k' v' : Value} {Q : St → Prop} {Qc : Shared → Prop} (f : FB.ok fb c n) (R : RelF c fb W σ s) (U : VR c.CR W u u') (Kk : VR c.CR W k k') (V : VR c.CR W v v') (E : setop u k v σ Q)
    (hq : ∀ σ' s' W', RelF c fb W' σ' s' → W.Le W' → Q σ' → Qc s') : wpAny (model c.prog c.w) fb.A (setItem u' k' v') (fun _ => Qc) Ec s := by
  obtain ⟨i, U, E⟩ := U.objB E
  cases k with
  | str k =>
    obtain ⟨t, rfl⟩ := Kk.str_inv
    obtain ⟨es, e1, E⟩ := dictB_inv E
    obtain ⟨x, o, kvs, A⟩ := dct_at R U e1
    obtain ⟨_, _, _, _, _, _, nd⟩ := id A.is
    rw [A.eq]
    refine kda_set R.F R.N (R.updF A.mu) A.is (strs_is _ _) (by rw [A.vs.length, sizeLine_eq]; exact Nat.le_trans E.1 (by decide)) fun h' o' F' N' hd' => ?_
    exact hq _ _ _ (R.put (tk := s.toks + 1) A.mu F' N' (.inr (dict_cls A.is)) (.dict ((A.vs.put V nd).mono R.cm (le_upd A.mu)) hd')) (le_upd A.mu) E.2
  | int k =>
    obtain ⟨t, rfl⟩ := Kk.int_inv
    obtain ⟨l, e1, E1, E2, E3, E4⟩ := listB_inv E
    obtain ⟨x, ws, kk, A⟩ := lst_at R U e1
    obtain ⟨q, h1, h2⟩ := setL_ofI V A.vs E1 E2
    rw [A.eq]
    refine ki_set R.F R.N E1 (by omega) (by simpa using h1) (R.updO _ A.mu) fun h' F' N' => ?_
    exact hq _ _ _ (R.put (tk := s.toks) A.mu F' N' (.inl rfl) (.list (h2.mono R.cm (le_upd A.mu)))) (le_upd A.mu) E4
  | _ => exact E.elim

theorem snd_seta {u v : AV} {nm : List Nat} {u' v' : Value} {Q : St → Prop} {Qc : Shared → Prop} (co : CxOk c) (f : FB.ok fb c n) (R : RelF c fb W σ s) (U : VR c.CR W u u') (V : VR c.CR W v v') (E : seta u nm v σ Q)
    (hq : ∀ σ' s' W', RelF c fb W' σ' s' → W.Le W' → Q σ' → Qc s') : wpAny (model c.prog c.w) fb.A (setAttr u' ⟨nm.toArray⟩ v') (fun _ => Qc) Ec s := by
  obtain ⟨i, U, E⟩ := U.objB E
  obtain ⟨K, d, e1, E⟩ := instB_inv E
  obtain ⟨es, e2, E1, E2, E3, E4⟩ := attsB_inv E
  obtain ⟨x, dx, ds, k, rfl, b1, hA, I, hm⟩ := inst_at R U e1 e2
  obtain ⟨t1, t2⟩ := co.att _ _ E1 E2
  obtain ⟨u1, u2, u3, u4⟩ := co.own _ E1
  refine set_dict R.F f.X R.N I rfl u3 u4 t2 u2 (hA.getL_some _) rfl (R.updO _ b1) ?_ fun h' F' N' => ?_
  · have := putL_len ⟨nm.toArray⟩ (PyData.keyHash c.w.params ⟨nm.toArray⟩) (.str ⟨nm.toArray⟩ (s.toks + 1)) v' ds
    rw [hA.length] at this
    omega
  · exact hq _ _ _ (R.put (tk := s.toks + 2) b1 F' N' (.inr (by simp)) (.attrs ((hA.put V).mono R.cm (le_upd b1)))) (le_upd b1) E4

theorem snd_aug {op : Operator} {u v r : AV} {u' v' : Value} {Q : Value → Shared → Prop} (R : RelF c fb W σ s) (U : VR c.CR W u u') (V : VR c.CR W v v') (E : augop op u v = some r)
    (hq : ∀ s' r', RelF c fb W σ s' → VR c.CR W r r' → Q r' s') : wpAny (model c.prog c.w) fb.A (inplaceOp op u' v') Q Ec s := by
  cases op with
  | Add =>
    obtain ⟨a, t, rfl, E⟩ := U.intV E
    obtain ⟨b, t', rfl, E⟩ := V.intV E
    obtain rfl := Option.some.inj E
    exact PyProof.Rows.iadd_int (hq _ _ (R.tok _) .int)
  | Mult =>
    obtain ⟨a, t, rfl, E⟩ := U.intV E
    obtain ⟨b, t', rfl, E⟩ := V.intV E
    obtain ⟨hc, rfl⟩ := guardO_inv E
    exact PyProof.Rows.imul_int (hq _ _ (R.tok _) .int) (hc.elim (fun h => .of_left (bits_of h)) (fun h => .of_right (bits_of h)))
  | FloorDiv =>
    obtain ⟨a, t, rfl, E⟩ := U.intV E
    obtain ⟨b, t', rfl, E⟩ := V.intV E
    obtain ⟨hc, rfl⟩ := guardO_inv E
    exact PyProof.Rows.ifloordiv_int hc.1 (hq _ _ (R.tok _) .int) (.inl (div_pylong hc.2))
  | _ => exact no_some E

theorem s_attr {env : Env} {o e : Expr} {x y : X} {nm : Str} {p pos} (co : CxOk c) (h : SE c C n env e y) (h1 : SE c C n env o x) (hs : swapsWith e (some (.Attribute o nm p)) pos.line env = pure false) : S1 c C n env (.Assign [.Attribute o nm p] e pos) (.asg (.attr x (cp nm)) y) := by
  intro fb k ρ W σ s ex R N Qc Ec f he Rl L E hn hr hx
  subst he
  cases k with
  | zero => exact E.elim
  | succ k =>
    refine plainObj_wpAny_Assign_Attribute (h _ _ _ _ _ _ _ _ _ _ f f.ev Rl L E (fun v av σ' s' W' R' le V q => ?_) hx.px) hs
    refine h1 _ _ _ _ _ _ _ _ _ _ f f.ev R' (L.le Rl.cm le) q (fun v₁ av₁ σ₁ s₁ W₁ R₁ le₁ V₁ q₁ => ?_) (hx.le le).px
    have en : (⟨(cp nm).toArray⟩ : Str) = nm := by simp [cp]
    have := snd_seta (Qc := Qc .next) (Ec := Ec) co f R₁ V₁ (V.mono R'.cm le₁) q₁ fun σ₂ s₂ W₂ R₂ le₂ q₂ => hn _ _ _ _ fb.m R₂ (le.trans (le₁.trans le₂)) (L.le Rl.cm (le.trans (le₁.trans le₂))) q₂
    rw [en] at this
    exact this
theorem s_sub {env : Env} {o i e : Expr} {x z y : X} {p pos} (h : SE c C n env e y) (h1 : SE c C n env o x) (h2 : SE c C n env i z) (hs : swapsWith e (some (.Subscript o i p)) pos.line env = pure false) : S1 c C n env (.Assign [.Subscript o i p] e pos) (.asg (.sub x z) y) := by
  intro fb k ρ W σ s ex R N Qc Ec f he Rl L E hn hr hx
  subst he
  cases k with
  | zero => exact E.elim
  | succ k =>
    refine wpAny_Assign_Subscript (h _ _ _ _ _ _ _ _ _ _ f f.ev Rl L E (fun v av σ' s' W' R' le V q => ?_) hx.px) hs
    refine h1 _ _ _ _ _ _ _ _ _ _ f f.ev R' (L.le Rl.cm le) q (fun v₁ av₁ σ₁ s₁ W₁ R₁ le₁ V₁ q₁ => ?_) (hx.le le).px
    refine h2 _ _ _ _ _ _ _ _ _ _ f f.ev R₁ (L.le Rl.cm (le.trans le₁)) q₁ (fun v₂ av₂ σ₂ s₂ W₂ R₂ le₂ V₂ q₂ => ?_) (hx.le (le.trans le₁)).px
    exact snd_setop f R₂ (V₁.mono R₁.cm le₂) V₂ (V.mono R'.cm (le₁.trans le₂)) q₂ fun σ₃ s₃ W₃ R₃ le₃ q₃ => hn _ _ _ _ fb.m R₃ (le.trans (le₁.trans (le₂.trans le₃))) (L.le Rl.cm (le.trans (le₁.trans (le₂.trans le₃)))) q₃
theorem s_aug {env : Env} {op : Operator} {x : Str} {e : Expr} {y : X} {p pos} (h : SE c C n env e y) (hk : env.kindOf x = some .local) : S1 c C n env (.AugAssign (.Name x p) op e pos) (.aug (cp x) op y) := by
  intro fb k ρ W σ s ex R N Qc Ec f he Rl L E hn hr hx
  subst he
  cases k with
  | zero => exact E.elim
  | succ k =>
    obtain ⟨u, hu, E⟩ := osB_inv (o := look (cp x) ρ) E
    obtain ⟨u', U, nm⟩ := L _ _ hu
    have en : (⟨(cp x).toArray⟩ : Str) = x := by simp [cp]
    rw [en] at nm
    have go : wpAny (model c.prog c.w) fb.A (loadName fb.env x) (fun v s' => v = u' ∧ s' = s) Ec s := by
      cases nm with
      | loc a b d => exact wpAny_loadName_local f.hk a (by rw [b]; exact Rl.F.ns) d ⟨rfl, rfl⟩
      | com o mc a b d g => exact wpAny_loadName_local f.hk a (d _ (Rl.N _ (List.mem_append_right _ (f.cel _ b))).1) g ⟨rfl, rfl⟩
      | cell kk o a b d g => rcases a with a | ⟨a, _⟩ <;> (rw [hk] at a; cases a)
    refine wpAny_AugAssign_Name (wpAny_mono go (fun v s' hv => ?_) fun _ _ h => h)
    obtain ⟨rfl, rfl⟩ := hv
    refine h _ _ _ _ _ _ _ _ _ _ f f.ev Rl L E (fun v av σ' s' W' R' le V q => ?_) hx.px
    obtain ⟨r, hr', q⟩ := osB_inv q
    exact snd_aug R' (U.mono Rl.cm le) V hr' fun s₂ r' R₂ V₂ => snd_store f R₂ (L.le Rl.cm le) hk V₂ fun s₃ m' R₃ L₃ => hn _ _ _ _ m' R₃ le L₃ q
theorem sub_key {u r : AV} {x : List Nat} (h : subop u (.str x) σ = some r) : ∃ j, u = .obj j ∧ rowsV (fun es => look x es) σ[j]? = some r := by
  cases u with
  | obj j => exact ⟨j, rfl, h⟩
  | _ => exact no_some h
theorem s_augsub {env : Env} {op : Operator} {o i e : Expr} {x z y : X} {p pos} (h : SE c C n env e y) (h1 : SE c C n env o x) (h2 : SE c C n env i z)
    (hi : ∀ ov iv new, augStore i ov iv new = (do holding [new, ov, iv] (setItem ov iv new); release [new, ov, iv] []; pure .next)) : S1 c C n env (.AugAssign (.Subscript o i p) op e pos) (.augSub x z op y) := by
  intro fb k ρ W σ s ex R N Qc Ec f he Rl L E hn hr hx
  subst he
  cases k with
  | zero => exact E.elim
  | succ k =>
    refine wpAny_AugAssign_SubscriptAny (h1 _ _ _ _ _ _ _ _ _ _ f f.ev Rl L E (fun v₁ av₁ σ₁ s₁ W₁ R₁ le₁ V₁ q₁ => ?_) hx.px) hi
    refine h2 _ _ _ _ _ _ _ _ _ _ f f.ev R₁ (L.le Rl.cm le₁) q₁ (fun v₂ av₂ σ₂ s₂ W₂ R₂ le₂ V₂ q₂ => ?_) (hx.le le₁).px
    cases av₂ with
    | str key =>
      obtain ⟨old, hk, q₂⟩ := osB_inv (o := subop av₁ (.str key) σ₂) q₂
      obtain ⟨j, rfl, hk⟩ := sub_key hk
      obtain ⟨t, rfl⟩ := V₂.str_inv
      have V1' := V₁.mono R₁.cm le₂
      obtain ⟨es, x, o, kvs, A, hk⟩ := rows_at R₂ V1' hk
      have hD := kda_dict R₂.N A.mem A.is
      obtain ⟨vv, g1, g2⟩ := A.vs.look_some hk
      obtain rfl := A.eq
      have le12 := le₁.trans le₂
      refine wpAny_getItem_of (strs_is _ _) hD.mapOf g1 ?_
      refine h _ _ _ _ _ _ _ _ _ _ f f.ev (R₂.tok (s₂.toks + 1)) (L.le Rl.cm le12) q₂ (fun v₃ av₃ σ₃ s₃ W₃ R₃ le₃ V₃ q₃ => ?_) (hx.le le12).px
      obtain ⟨r, hr', q₃⟩ := osB_inv q₃
      exact snd_aug R₃ (g2.mono R₂.cm le₃) V₃ hr' fun s₄ r' R₄ V₄ => snd_setop f R₄ (V1'.mono R₂.cm le₃) (V₂.mono R₂.cm le₃) V₄ q₃ fun σ₅ s₅ W₅ R₅ le₅ q₅ =>
        have le15 := le12.trans (le₃.trans le₅)
        hn _ _ _ _ fb.m R₅ le15 (L.le Rl.cm le15) q₅
    | _ => exact q₂.elim
end
end
section
open PySem PySem.W PyProof.Rows PySem.Calls
section
variable {c : Cx} {C : Ctr} {n : Nat} {fb : FB} {W W' : GW} {σ : St} {s : Shared} {Ec : Value → Shared → Prop} {ρ : Loc}

theorem FB.ok.hid (f : FB.ok fb c n) (p) : FB.ok (fb.hid p) c n := ⟨⟨f.B, f.X, f.T, f.fr, f.hf, f.hk, f.lo, f.gl, f.bi, f.hd⟩, f.dp, f.un, fun q hq => .tail _ (f.ce q hq)⟩
theorem hid_perm {Hid : Led} {p : Addr × Obj} : (led W (p :: Hid)).Perm (p :: led W Hid) := by
  simp only [led, List.cons_append]
  exact List.perm_middle
theorem Lg.drop {p : Addr × Obj} {Hid} (R : Lg c (p :: Hid) W σ) : Lg c Hid W σ := by
  refine ⟨?_, R.hr, R.g, R.cm, R.ns⟩
  have := R.nd
  rw [((hid_perm (W := W)).map _).nodup_iff, List.map_cons, List.nodup_cons] at this
  exact this.2
theorem Lg.notIn {p : Addr × Obj} {Hid} (R : Lg c (p :: Hid) W σ) : ∀ q ∈ led W Hid, q.1 ≠ p.1 := by
  have := R.nd
  rw [((hid_perm (W := W)).map _).nodup_iff, List.map_cons, List.nodup_cons] at this
  exact fun q hq e => this.1 (List.mem_map.mpr ⟨q, hq, e⟩)
theorem RelF.unhid {p : Addr × Obj} (R : RelF c (fb.hid p) W σ s) : RelF c fb W σ s := ⟨R.toLg.drop, R.F, fun q hq => R.N q (hid_perm.mem_iff.mpr (.tail _ hq)), R.sm⟩
/-- a new hidden object -/
theorem RelF.tohid (R : RelF c fb W σ s) {p : Addr × Obj} {h' : Heap} {tk : Nat} (F : Fr fb.h₀ fb.L h' fb.m) (N : News fb.h₀ fb.L h' (p :: led W fb.Hid)) (fr : ∀ q ∈ led W fb.Hid, q.1 ≠ p.1) : RelF c (fb.hid p) W σ { s with heap := h', toks := tk } where
  nd := by
    show ((led W (p :: fb.Hid)).map _).Nodup
    rw [((hid_perm (W := W)).map _).nodup_iff, List.map_cons, List.nodup_cons]
    exact ⟨fun h => by obtain ⟨q, hq, e⟩ := List.mem_map.mp h; exact fr q hq e, R.nd⟩
  hr := R.hr
  g := R.g
  cm := R.cm
  ns := R.ns
  F := F
  N := fun q hq => N q (hid_perm.mem_iff.mp hq)
  sm := ⟨R.sm.1, R.sm.2, R.sm.3⟩
theorem RelF.mem (R : RelF c (fb.hid p) W σ s) : s.heap.get? p.1 = some p.2 := (R.N p (hid_perm.mem_iff.mpr (.head _))).1
theorem RelF.list (R : RelF c (fb.hid p) W σ s) : News fb.h₀ fb.L s.heap (p :: led W fb.Hid) := fun q hq => R.N q (hid_perm.mem_iff.mpr hq)
/-- the hidden object has changed -/
theorem RelF.rehid {I : Addr} {o o' : Obj} {h' : Heap} {tk : Nat} (R : RelF c (fb.hid (I, o)) W σ s) (hs : Heap.SameBut I s.heap h') (ho : h'.get? I = some o') : RelF c (fb.hid (I, o')) W σ { s with heap := h', toks := tk } := by
  have m := R.list _ (.head _)
  exact (R.unhid).tohid (R.F.change hs m.2.1 m.2.2) (News.setIn (own := []) R.list (fun p (h : p ∈ []) => absurd h List.not_mem_nil) R.toLg.notIn hs ho) R.toLg.notIn
/-- the hidden object goes -/
theorem RelF.gone {I : Addr} {o : Obj} {h' : Heap} {tk : Nat} (R : RelF c (fb.hid (I, o)) W σ s) (hs : Heap.ExtBut I s.heap h') : RelF c fb W σ { s with heap := h', toks := tk } := by
  have m := R.list _ (.head _)
  have F : Fr fb.h₀ fb.L h' fb.m := by
    obtain ⟨⟨oL, a1, a2, hoL, a3⟩, hk, ha⟩ := R.F
    exact ⟨⟨oL, a1, a2, hs _ _ (Ne.symm m.2.1) hoL, a3⟩, fun b o' e => hs _ _ (fun q => by rw [q] at e; have := m.2.2; rw [e] at this; cases this) (hk b o' e), ha⟩
  exact R.unhid.to F fun q hq => ⟨hs _ _ (R.toLg.notIn q hq) (R.unhid.N q hq).1, (R.unhid.N q hq).2⟩

theorem Way.unhid {p : Addr × Obj} {l l' : Led} {e : Addr} {h : Heap} (w : Way c (fb.hid p) l e h) (hl : ∀ q ∈ l', q ∈ l) : Way c fb l' e h := by
  cases w with
  | made h₁ F N x => exact .made h₁ F (fun q hq => N q (hl q hq)) x
  | fly g B a0 fl F x1 x2 x3 => exact .fly g B a0 fl F ⟨x1.1, fun q hq => x1.2 q (hl q hq)⟩ x2 x3
theorem Rx.unhid {p : Addr × Obj} {v : Value} (R : Rx c (fb.hid p) W σ v s) : Rx c fb W σ v s := by
  obtain ⟨a, e, w⟩ := R.way
  exact ⟨R.toLg.drop, R.sm, a, e, w.unhid fun q hq => hid_perm.mem_iff.mpr (.tail _ hq)⟩
theorem LocF.hid {ev : Env} {p : Addr × Obj} (L : LocF c fb ev W ρ) : LocF c (fb.hid p) ev W ρ := L
theorem RPost.hid {R : KE} {Qc} {p} (h : RPost c fb W R Qc) : RPost c (fb.hid p) W R Qc := fun v av σ' s' W' m' R l V q => h v av σ' s' W' m' (RelF.unhid (fb := fb.setm m') R) l V q
theorem XPost.hid {ex} {p} (h : XPost c fb W ex Ec) : XPost c (fb.hid p) W ex Ec := fun e σ' s' W' m' R l q => h e σ' s' W' m' (Rx.unhid (fb := fb.setm m') R) l q

theorem XPost.back {ex} (f : FB.ok fb c n) (h : XPost c fb W ex Ec) : XPost c fb W ex (notedBy (model c.prog c.w) fb.A fb.env fun e s => cameBackBy (model c.prog c.w) fb.A fb.env Ec e s) := fun e σ' s' W' m' R le q => by
  obtain ⟨a, rfl, w⟩ := R.way
  exact way_back (fb := fb.setm m') (f.set m') w f.hf fun h' w' => h _ σ' _ W' m' ⟨R.toLg, ⟨R.sm.1, R.sm.2, R.sm.3⟩, a, rfl, w'⟩ le q
theorem XPost.noted {ex} (f : FB.ok fb c n) {env : Env} (he : env.frame = some fb.L) (h : XPost c fb W ex Ec) : XPost c fb W ex (notedBy (model c.prog c.w) fb.A env Ec) := fun e σ' s' W' m' R le q => by
  obtain ⟨a, rfl, w⟩ := R.way
  exact way_noted (fb := fb.setm m') (f.set m') w he fun h' w' => h _ σ' _ W' m' ⟨R.toLg, ⟨R.sm.1, R.sm.2, R.sm.3⟩, a, rfl, w'⟩ le q

/-- what is walked -/
structure Src (c : Cx) (I : Addr) (items : List AV) (J : Nat → Obj → Prop) (Kp : GW → Prop) : Prop where
  mono : ∀ {W W' : GW}, CloMono c.CR → W.Le W' → Kp W → Kp W'
  item : ∀ fb n W σ s i o a Q E, FB.ok fb c n → items[i]? = some a → J i o → Kp W → RelF c (fb.hid (I, o)) W σ s → (∀ v o' s', J (i + 1) o' → VR c.CR W a v → RelF c (fb.hid (I, o')) W σ s' → Q (some v) s') → wpAny (model c.prog c.w) fb.A (pyNext (.ref I)) Q E s
  done : ∀ fb n W σ s i o Q E, FB.ok fb c n → items[i]? = none → J i o → Kp W → RelF c (fb.hid (I, o)) W σ s → (∀ s', RelF c fb W σ s' → Q none s') → wpAny (model c.prog c.w) fb.A (pyNext (.ref I)) Q E s
  self : ∀ fb n W σ s i o Q E, FB.ok fb c n → J i o → RelF c (fb.hid (I, o)) W σ s → Q (.ref I) s → wpAny (model c.prog c.w) fb.A (pyIter (.ref I)) Q E s

theorem src_list {I ax : Addr} {l : List AV} : Src c I l (fun i o => o.cls = .type "list_iterator" ∧ o.data = .fields #[.ref ax, .int i 0]) (fun W => ∃ ws, W.Seq "list" ax ws ∧ VRs c.CR W l ws) where
  mono := fun cm le ⟨ws, h1, h2⟩ => ⟨ws, le.seq h1, h2.mono cm le⟩
  item := fun fb n W σ s i o a Q E f hi hJ ⟨ws, h1, h2⟩ R q => by
    obtain ⟨v, g1, g2⟩ := h2.get hi
    refine wpAny_pyNext_list_item ⟨o, R.mem, hJ.1, hJ.2⟩ (R.isList f.stays h1) (by simpa using g1) fun h' ⟨o', e1, e2, e3⟩ hs => ?_
    exact q v o' _ ⟨e2, e3⟩ g2 (R.rehid (tk := s.toks) hs e1)
  done := fun fb n W σ s i o Q E f hi hJ ⟨ws, h1, h2⟩ R q => by
    refine wpAny_pyNext_list_end f.hd ⟨o, R.mem, hJ.1, hJ.2⟩ (R.isList f.stays h1) ?_ fun h' hs => q _ (R.gone (tk := s.toks) hs)
    have := List.getElem?_eq_none_iff.mp hi
    have hl := h2.length
    simp; omega
  self := fun fb n W σ s i o Q E f hJ R q => wpAny_pyIter_listiter (l := ax) (i := i) ⟨o, R.mem, hJ.1, hJ.2⟩ q
theorem src_range {I : Addr} {k : Nat} : Src c I (rngL k) (fun i o => i ≤ k ∧ o = { cls := .type "range_iterator", dict := none, data := .fields #[rawInt i, rawInt ((k : Int) - i), rawInt 1], slots := #[] }) (fun _ => True) where
  mono := fun _ _ _ => trivial
  item := fun fb n W σ s i o a Q E f hi hJ _ R q => by
    obtain ⟨hJ1, rfl⟩ := hJ
    unfold rngL at hi
    rw [List.getElem?_map] at hi
    have hlt : i < k := by
      by_cases h : i < k
      · exact h
      · rw [List.getElem?_eq_none (by simp; omega)] at hi; cases hi
    rw [List.getElem?_range hlt] at hi
    cases hi
    have hm := R.mem
    refine wpAny_pyNext_range_item (x := i) (left := (k : Int) - i) (step := 1) hm (by omega) fun h' e1 hs => ?_
    refine q _ _ _ ⟨hlt, ?_⟩ .int (R.rehid (tk := s.toks + 1) hs e1)
    rw [show (k : Int) - ((i + 1 : Nat) : Int) = (k : Int) - i - 1 by omega]
    rfl
  done := fun fb n W σ s i o Q E f hi hJ _ R q => by
    obtain ⟨hJ1, rfl⟩ := hJ
    have hk : ¬ i < k := fun h => by
      unfold rngL at hi
      rw [List.getElem?_map, List.getElem?_range h] at hi; cases hi
    exact wpAny_pyNext_range_end (x := i) (left := (k : Int) - i) (step := 1) f.hd R.mem (by omega) fun h' hs => q _ (R.gone (tk := s.toks) hs)
  self := fun fb n W σ s i o Q E f hJ R q => by
    obtain ⟨hJ1, rfl⟩ := hJ
    exact wpAny_pyIter_rangeiter (x := i) (left := (k : Int) - i) (step := 1) R.mem q
end
end
section
open PySem PySem.W PyProof.Rows PySem.Calls
section
variable {c : Cx} {C : Ctr} {n : Nat} {fb : FB} {W W' : GW} {σ : St} {s : Shared} {Ec : Value → Shared → Prop} {ρ : Loc} {ev : Env}

/-- an iterable, evaluated and begun -/
noncomputable def SI (c : Cx) (C : Ctr) (n : Nat) (ev : Env) (e : Expr) (x : X) : Prop := ∀ fb k ρ W σ s ex Q Qc Ec, FB.ok fb c n → EvOk fb ev → RelF c fb W σ s → LocF c fb ev W ρ → srcE (evE C ex k ρ) x σ Q →
  (∀ items I J Kp o s' σ' W', Src c I items J Kp → J 0 o → Kp W' → RelF c (fb.hid (I, o)) W' σ' s' → W.Le W' → Q items σ' → Qc (.ref I) s') → PX c fb W ex Ec →
  wpAny (model c.prog c.w) fb.A (eval e ev) (fun v s₁ => wpAny (model c.prog c.w) fb.A (pyIter v) Qc Ec s₁) Ec s

theorem srcE_list {f : X → St → KE → Prop} {x : X} {σ : St} {Q : List AV → St → Prop} (hb : bcX x = false) (E : srcE f x σ Q) : f x σ fun v σ' => lstB (fun l => l.length ≤ 100000 ∧ Q l σ') v := by
  cases x with
  | bcall _ _ => cases hb
  | _ => exact E
theorem si_list {e : Expr} {x : X} (h : SE c C n ev e x) (hb : bcX x = false) : SI c C n ev e x := by
  intro fb k ρ W σ s ex Q Qc Ec f eo R L E hq hx
  have E' := srcE_list hb E
  refine h _ _ _ _ _ _ _ _ _ _ f eo R L E' (fun v av σ' s' W' R' le V q => ?_) hx
  obtain ⟨l, ax, ws, rfl, g1, g2, q⟩ := V.lstB q
  refine wpAny_pyIter_list (R'.isList f.stays g1) ?_
  have F' := R'.F.push { cls := .type "list_iterator", data := .fields #[.ref ax, .int 0 0] }
  have N' := News.push R'.F R'.N { cls := .type "list_iterator", data := .fields #[.ref ax, .int 0 0] }
  exact hq _ _ _ _ _ _ _ _ (src_list (ax := ax)) ⟨rfl, rfl⟩ ⟨ws, g1, g2⟩ (R'.tohid (tk := s'.toks) F' N' R'.fresh) le q.2
theorem si_range {e : Expr} {x : X} {p pos} (h : SE c C n ev e x) (hst : starEach [e] ev = [(false, eval e ev)]) (hx' : ev.kindOf ("range" : Str) = some .globalImplicit) (hg : nsIn c.K mainGlobals ("range" : Str) = some none) : SI c C n ev (.Call (.Name "range" p) [e] [] pos) (.bcall .range [x]) := by
  intro fb k ρ W σ s ex Q Qc Ec f eo R L E hq hx
  refine Call_ (bi_read (b := .range) f.toFm R eo.k eo.g eo.b hx' hg ?_)
  refine snd_callWith (P := fun _ => True) (k := k) (ρ := ρ) (ex := ex) (es := [e]) (xs := [x]) (Q := fun vs σ' => oneB (intB fun n => 0 ≤ n ∧ n ≤ 100000 ∧ Q (rngL n.toNat) σ') vs) f eo R L (.cons ⟨h, hst⟩ .nil) E (fun h _ => ⟨.machine, .inr (.inl rfl), .now⟩) (fun vs avs σ' s' W' R' le V q => ⟨trivial, ?_⟩) hx
  · obtain ⟨u, rfl, q⟩ := oneB_inv q
    obtain ⟨v, rfl, V'⟩ := V.one_inv
    obtain ⟨m, t, rfl, q⟩ := V'.intB q
    refine call_range_1 (wpAny_pyIter_range (IsRange.new ..) (small_one (by decide) (by decide) (by omega) (by omega)) ?_)
    have F1 := R'.F.push { cls := .type "range", data := .fields #[.int 0 s'.toks, .int m t, .int 1 (s'.toks + 1)] }
    have N1 := R'.N.grown fun b o e => Heap.get?_push_of_some { cls := .type "range", data := .fields #[.int 0 s'.toks, .int m t, .int 1 (s'.toks + 1)] } e
    have hsz : Builtin.Range.rangeSize 0 m 1 = ((m.toNat : Nat) : Int) - ((0 : Nat) : Int) := by
      unfold Builtin.Range.rangeSize
      rw [if_pos (by decide)]
      split <;> omega
    have F2 := F1.push { cls := .type "range_iterator", dict := none, data := .fields #[rawInt ((0 : Nat) : Int), rawInt (((m.toNat : Nat) : Int) - ((0 : Nat) : Int)), rawInt 1], slots := #[] }
    have N2 := News.push F1 N1 { cls := .type "range_iterator", dict := none, data := .fields #[rawInt ((0 : Nat) : Int), rawInt (((m.toNat : Nat) : Int) - ((0 : Nat) : Int)), rawInt 1], slots := #[] }
    have := hq _ _ _ _ _ _ _ _ (src_range (c := c) (k := m.toNat)) ⟨Nat.zero_le _, rfl⟩ trivial (R'.tohid (tk := s'.toks + 1 + 1) F2 N2 fun p hp => by
      have := R'.below p hp
      show p.1 ≠ (s'.heap.push _).objs.size
      rw [Heap.size_push]
      exact Nat.ne_of_lt (Nat.lt_succ_of_lt this)) le q.2.2
    rw [hsz]
    exact this
end
end
section
open PySem PySem.W PyProof.Rows PySem.Calls
section
variable {c : Cx} {C : Ctr} {n : Nat}

theorem loopL_drop {body : AV → Loc → St → (Loc → St → Prop) → Prop} {items : List AV} {i : Nat} {a : AV} {ρ σ N} (h : items[i]? = some a) (E : loopL body (items.drop i) ρ σ N) : body a ρ σ fun ρ' σ' => loopL body (items.drop (i + 1)) ρ' σ' N := by
  obtain ⟨hl, e⟩ := List.getElem?_eq_some_iff.mp h
  rw [List.drop_eq_getElem_cons hl, e] at E
  exact E
theorem loopL_end {body : AV → Loc → St → (Loc → St → Prop) → Prop} {items : List AV} {i : Nat} {ρ σ N} (h : items[i]? = none) (E : loopL body (items.drop i) ρ σ N) : N ρ σ := by
  rw [List.drop_eq_nil_of_le (List.getElem?_eq_none_iff.mp h)] at E
  exact E

/-- how a loop stands between two turns -/
inductive TInv {α : Type} (c : Cx) (fb : FB) (W : GW) (items : List AV) (hf : FB → Nat → α → FB) (J : Nat → α → Prop) (Kp : GW → Prop) (body : AV → Loc → St → (Loc → St → Prop) → Prop) (N : Loc → St → Prop) (m : Nat) (s : Shared) : Prop
  | mk (i : Nat) (ρ : Loc) (σ : St) (W' : GW) (mm : Str → Option Value) (o : α) : m = items.length - i → i ≤ items.length → J i o → Kp W' → W.Le W' → RelF c (hf (fb.setm mm) i o) W' σ s → LocF c (fb.setm mm) fb.env W' ρ → loopL body (items.drop i) ρ σ N → TInv c fb W items hf J Kp body N m s
noncomputable def hidO (I : Addr) (fb : FB) (_ : Nat) (o : Obj) : FB := fb.hid (I, o)
theorem turn_lt {n i : Nat} (h : i < n) : n - (i + 1) < n - i := Nat.sub_succ_lt_self n i h
/-- the turns of a loop over what is walked -/
theorem snd_turns {fb : FB} {x : Str} {p : Pos} {b : List Stmt} {y : List XS} {items : List AV} {I : Addr} {J : Nat → Obj → Prop} {Kp : GW → Prop} {k : Nat} {ρ : Loc} {W : GW} {σ : St} {s : Shared} {o : Obj} {ex : St → Prop} {R : KE} {N : Loc → St → Prop} {Qc : Flow → Shared → Prop} {Ec : Value → Shared → Prop}
    (h : SS c C n fb.env b y) (S : Src c I items J Kp) (f : FB.ok fb c n) (hk : fb.env.kindOf x = some .local) (hJ : J 0 o) (hK : Kp W) (Rl : RelF c (fb.hid (I, o)) W σ s) (L : LocF c fb fb.env W ρ)
    (E : loopL (fun v ρ₁ σ₁ K => evSs C ex R k y ((cp x, v) :: ρ₁) σ₁ K) items ρ σ N) (hn : NPost c fb W N (Qc .next)) (hr : RPost c fb W R (fun v => Qc (.ret v))) (hx : XPost c fb W ex Ec) :
    codeAny (model c.prog c.w) fb.A (Code.forLoop (.Name x p) (.ref I) b [] fb.env) (fun r s' => match r with | .ok f => Qc f s' | .error e => cameBackBy (model c.prog c.w) fb.A fb.env Ec e s') s := by
  refine codeAny_forLoop (TInv c fb W items (hidO I) J Kp (fun v ρ₁ σ₁ K => evSs C ex R k y ((cp x, v) :: ρ₁) σ₁ K) N) ?_ items.length ?_ (by intro v; rfl)
  · rintro m s ⟨i, ρ, σ, W', mm, o, rfl, hi, hJ, hK, le, Rl, L, E⟩
    cases hq : items[i]? with
    | none =>
      refine S.done (fb.setm mm) n W' σ s i o _ _ (f.set mm) hq hJ hK Rl fun s' R' => ?_
      exact wpAny_execs_nil (hn _ _ _ _ mm R' le L (loopL_end hq E))
    | some a =>
      have hlt := (List.getElem?_eq_some_iff.mp hq).1
      refine S.item (fb.setm mm) n W' σ s i o a _ _ (f.set mm) hq hJ hK Rl fun v o' s' hJ' V R' => ?_
      refine PyProof.Rows.assign_Name (snd_store (fb := (fb.setm mm).hid (I, o')) ((f.set mm).hid _) R' (LocF.hid L) hk V fun s₂ m₂ R₂ L₂ => ?_)
      refine h (((fb.setm mm).hid (I, o')).setm m₂) k _ W' σ s₂ ex R _ _ _ (((f.set mm).hid _).set m₂) rfl R₂ L₂ (loopL_drop hq E) (fun ρ' σ' s₃ W₃ m₃ R₃ le₃ L₃ E₃ => ?_) (fun v₃ av₃ σ₃ s₃ W₃ m₃ R₃ le₃ V₃ q₃ => ?_) ?_
      · exact ⟨items.length - (i + 1), turn_lt hlt, i + 1, ρ', σ', W₃, m₃, o', rfl, hlt, hJ', S.mono R₂.cm le₃ hK, le.trans le₃, R₃, L₃, E₃⟩
      · exact hr _ _ _ _ _ m₃ (RelF.unhid (fb := fb.setm m₃) R₃) (le.trans le₃) V₃ q₃
      · exact ((hx.le le).back f).hid
  · exact ⟨0, ρ, σ, W, fb.m, o, rfl, Nat.zero_le _, hJ, hK, .refl _, Rl, L, E⟩

theorem ER.keys {CR W} {es kvs} (h : ER CR W es kvs) : ∀ {i : Nat} {a : AV}, (es.map fun p => AV.str p.1)[i]? = some a → ∃ k v, kvs[i]? = some (k, v) ∧ a = .str k.cps.toList := by
  induction h with
  | nil => intro i a h; exact nomatch h
  | cons V _ ih =>
    intro i a h
    cases i with
    | zero => exact ⟨_, _, rfl, (Option.some.inj h).symm⟩
    | succ i => exact ih (i := i) h
theorem isStr_val {k : Str} {v : Value} {prog w} (h : (PySem.strKind prog w).is k v = true) : ∃ t, v = .str k t := Value.isStrOf_shape h
theorem key_VR {CR W} {k : Str} {t : Tok} : VR CR W (.str k.cps.toList) (.str k t) := by
  have := VR.str (CR := CR) (W := W) (s := k.cps.toList) (t := t)
  simpa using this

theorem set_self {α : Type} {l : List α} {j : Nat} {p : α} (h : l[j]? = some p) : l.set j p = l := by
  apply List.ext_getElem?
  intro i
  rw [List.getElem?_set]
  split
  · rename_i e
    subst e
    rw [if_pos (List.getElem?_eq_some_iff.mp h).1, h]
  · rfl
theorem pin_set {fb : FB} {W : GW} {σ : St} {s : Shared} {j : Nat} {a' : AO} (R : RelF c fb W σ s) {x : Addr} {o : Obj} (hx : W.Mu[j]? = some (x, o)) (h : OR c.CR c.prog c.w W a' o) : RelF c fb W (σ.set j a') s where
  nd := R.nd
  hr := by
    have := R.hr.set (p := (x, o)) j h
    rwa [set_self hx] at this
  g := R.g
  cm := R.cm
  ns := R.ns
  F := R.F
  N := R.N
  sm := R.sm

theorem snd_dturns {fb : FB} {x : Str} {p : Pos} {b : List Stmt} {y : List XS} {k : Nat} {ρ : Loc} {W : GW} {σ : St} {s : Shared} {ex : St → Prop} {R : KE} {N : Loc → St → Prop} {Qc : Flow → Shared → Prop} {Ec : Value → Shared → Prop}
    {j : Nat} {D : Addr} {od : Obj} {es : List (List Nat × AV)} {kvs : List (Str × Value)} {ep : Nat} {I : Addr} {o : Obj}
    (h : SS c C n fb.env b y) (f : FB.ok fb c n) (hk : fb.env.kindOf x = some .local) (Rl : RelF c (fb.hid (I, o)) W σ s) (L : LocF c fb fb.env W ρ)
    (hD : ∀ h : Heap, h.get? D = some od → h.DictAt (PySem.strKind c.prog c.w) D kvs ep) (hj : W.ad[j]? = some D) (hE : ∀ (i : Nat) (a : AV), (es.map fun p => AV.str p.1)[i]? = some a → ∃ k v, kvs[i]? = some (k, v) ∧ a = .str k.cps.toList) (hel : kvs.length = es.length)
    (hI : ∀ h : Heap, h.get? I = some o → h.IsKeyIter I D 0 kvs.length ep) (hs : σ[j]? = some (.pin es od))
    (E : loopL (fun v ρ₁ σ₁ K => isPin σ₁[j]? es od ∧ evSs C ex R k y ((cp x, v) :: ρ₁) σ₁ K) (es.map fun p => AV.str p.1) ρ σ fun ρ₂ σ₂ => isPin σ₂[j]? es od ∧ N ρ₂ (σ₂.set j (.dict es)))
    (hn : NPost c fb W N (Qc .next)) (hr : RPost c fb W R (fun v => Qc (.ret v))) (hx : XPost c fb W ex Ec) :
    codeAny (model c.prog c.w) fb.A (Code.forLoop (.Name x p) (.ref I) b [] fb.env) (fun r s' => match r with | .ok f => Qc f s' | .error e => cameBackBy (model c.prog c.w) fb.A fb.env Ec e s') s := by
  have pinned : ∀ {fb' : FB} {W' : GW} {σ' : St} {s' : Shared}, RelF c fb' W' σ' s' → W.Le W' → isPin σ'[j]? es od → s'.heap.get? D = some od ∧ W'.Mu[j]? = some (D, od) ∧ ∃ kvs', ER c.CR W' es kvs' ∧ od.IsDictOf (PySem.strKind c.prog c.w) kvs' := by
    intro fb' W' σ' s' R' le hp
    obtain ⟨x', o', a1, a2, a3, a4⟩ := R'.at hp
    obtain ⟨z, e⟩ := le.mu
    have hj' : _root_.Option.map (·.1) (some (x', o')) = some D := by
      rw [← a1, ← List.getElem?_map]
      have : W'.ad[j]? = some D := by rw [e, List.getElem?_append_left (List.getElem?_eq_some_iff.mp hj).1]; exact hj
      exact this
    cases hj'
    cases a2 with
    | pin u v => exact ⟨a4, a1, _, u, v⟩
  refine codeAny_forLoop (TInv c fb W (es.map fun p => AV.str p.1) (hidO I) (fun i o => ∀ h : Heap, h.get? I = some o → h.IsKeyIter I D i kvs.length ep) (fun _ => True) (fun v ρ₁ σ₁ K => isPin σ₁[j]? es od ∧ evSs C ex R k y ((cp x, v) :: ρ₁) σ₁ K) fun ρ₂ σ₂ => isPin σ₂[j]? es od ∧ N ρ₂ (σ₂.set j (.dict es))) ?_ (es.map fun p => AV.str p.1).length ?_ (by intro v; rfl)
  · rintro m s ⟨i, ρ, σ, W', mm, o, rfl, hi, hIt, _, le, Rl, L, E⟩
    cases hq : (es.map fun p => AV.str p.1)[i]? with
    | none =>
      obtain ⟨hp, E'⟩ := loopL_end hq E
      obtain ⟨g1, g2, kvs', g3, g4⟩ := pinned Rl le hp
      have : kvs[i]? = none := by
        rw [List.getElem?_eq_none_iff] at hq ⊢
        rw [List.length_map] at hq
        exact hel ▸ hq
      refine wpAny_pyNext_dict_end (knd := PySem.strKind c.prog c.w) f.hd (hIt _ Rl.mem) (hD _ g1) this fun h' hs' => ?_
      exact wpAny_execs_nil (hn _ _ _ _ mm (pin_set (RelF.gone (fb := fb.setm mm) (tk := s.toks) Rl hs') g2 (.dict g3 g4)) le L E')
    | some a =>
      have hlt := (List.getElem?_eq_some_iff.mp hq).1
      obtain ⟨hp, E'⟩ := loopL_drop hq E
      obtain ⟨g1, g2, kvs', g3, g4⟩ := pinned Rl le hp
      obtain ⟨key, v, e1, rfl⟩ := hE i a hq
      refine wpAny_pyNext_dict_item (hIt _ Rl.mem) (hD _ g1) e1 fun kv h' hkv hit hs' => ?_
      obtain ⟨t, rfl⟩ := isStr_val hkv
      have hit' := hit
      obtain ⟨o', ho', hit2⟩ := hit
      have R' := RelF.rehid (fb := fb.setm mm) (tk := s.toks) Rl hs' ho'
      refine PyProof.Rows.assign_Name (snd_store (fb := (fb.setm mm).hid (I, o')) ((f.set mm).hid _) R' (LocF.hid L) hk key_VR fun s₂ m₂ R₂ L₂ => ?_)
      refine h (((fb.setm mm).hid (I, o')).setm m₂) k _ W' σ s₂ ex R _ _ _ (((f.set mm).hid _).set m₂) rfl R₂ L₂ E' (fun ρ' σ' s₃ W₃ m₃ R₃ le₃ L₃ E₃ => ?_) (fun v₃ av₃ σ₃ s₃ W₃ m₃ R₃ le₃ V₃ q₃ => ?_) ?_
      · exact ⟨_, turn_lt hlt, i + 1, ρ', σ', W₃, m₃, o', rfl, hlt, fun h hh => ⟨o', hh, hit2⟩, trivial, le.trans le₃, R₃, L₃, E₃⟩
      · exact hr _ _ _ _ _ m₃ (RelF.unhid (fb := fb.setm m₃) R₃) (le.trans le₃) V₃ q₃
      · exact ((hx.le le).back f).hid
  · exact ⟨0, ρ, σ, W, fb.m, o, rfl, Nat.zero_le _, hI, trivial, .refl _, Rl, L, E⟩

theorem s_for {env : Env} {it : Expr} {x : Str} {b : List Stmt} {z : X} {y : List XS} {p pos} (h0 : SI c C n env it z) (h1 : SE c C n env it z) (h : SS c C n env b y) (hk : env.kindOf x = some .local) (hf : ∀ v, foldedSetIterable it env v = pure v) :
    S1 c C n env (.For (.Name x p) it b [] pos) (.loop (cp x) z y) := by
  intro fb k ρ W σ s ex R N Qc Ec f he Rl L E hn hr hx
  subst he
  cases k with
  | zero => exact E.elim
  | succ k =>
    rcases (E : _ ∨ _) with E | E
    · exact wpAny_For (h0 fb _ _ _ _ _ _ _ _ _ f f.ev Rl L E (fun items I J Kp o s' σ' W' S hJ hK R' le q => snd_turns h S f hk hJ hK R' (L.le Rl.cm le) q (hn.le le) (hr.le le) (hx.le le)) hx.px) hf
    · refine wpAny_For (h1 fb _ _ _ _ _ _ _ _ _ f f.ev Rl L E (fun v av σ' s' W' R' le V q => ?_) hx.px) hf
      obtain ⟨j, V, q⟩ := V.objB q
      obtain ⟨es, e1, q⟩ := dictB_inv q
      obtain ⟨D, od, kvs, A⟩ := dct_at R' V e1
      obtain rfl := A.eq
      obtain ⟨ees, ep, d1, d2, d3, d4, d5⟩ := A.is
      have hD : ∀ h : Heap, h.get? D = some od → h.DictAt (PySem.strKind c.prog c.w) D kvs ep := fun h hh => ⟨od, ees, hh, d1, d2, d3, d4, d5⟩
      refine wpAny_pyIter_dict (f.notSys R' A.mu (dict_cls A.is)) (hD _ A.get) ?_
      have F' := R'.F.push { cls := .type "dict_keyiterator", data := .fields #[.ref D, .int 0 0, .int kvs.length 0, .int ep 0] }
      have N' := News.push R'.F R'.N { cls := .type "dict_keyiterator", data := .fields #[.ref D, .int 0 0, .int kvs.length 0, .int ep 0] }
      have R₂ := R'.tohid (tk := s'.toks) F' N' R'.fresh
      have hlen : j < σ'.length := (List.getElem?_eq_some_iff.mp e1).1
      have R₃ := pin_set (j := j) R₂ A.mu (.pin A.vs A.is)
      exact snd_dturns (j := j) (od := od) (kvs := kvs) (ep := ep) h f hk R₃ (L.le Rl.cm le) hD (by rw [GW.ad, List.getElem?_map, A.mu]; rfl) (fun i a => A.vs.keys) A.vs.length (fun h hh => ⟨_, hh, rfl, rfl⟩) (by simp [hlen]) (q od) (hn.le le) (hr.le le) (hx.le le)
end
end
section
open PySem PySem.W PyProof.Rows PySem.Calls
section
variable {c : Cx} {C : Ctr} {n : Nat}

theorem s_while {env : Env} {t : Expr} {b : List Stmt} {x : X} {y : List XS} {pos} (h0 : ST c C n env t x) (h : SS c C n env b y) : S1 c C n env (.While t b [] pos) (.whl x y) := by
  intro fb k ρ W σ s ex R N Qc Ec f he Rl L E hn hr hx
  subst he
  cases k with
  | zero => exact E.elim
  | succ k =>
    obtain ⟨m, E⟩ := E
    refine wpAny_While (codeAny_whileLoop (fun m s => ∃ ρ σ W' mm, W.Le W' ∧ RelF c (fb.setm mm) W' σ s ∧ LocF c (fb.setm mm) fb.env W' ρ ∧
      whlL (fun ρ₁ σ₁ K N' => evT C ex k ρ₁ x σ₁ fun t σ₂ => sel t (evSs C ex R k y ρ₁ σ₂ K) (N' ρ₁ σ₂)) m ρ σ N) ?_ m ⟨ρ, σ, W, fb.m, .refl _, Rl, L, E⟩)
    rintro m s ⟨ρ, σ, W', mm, le, Rl, L, E⟩
    cases m with
    | zero => exact E.elim
    | succ m =>
      refine h0 (fb.setm mm) k ρ W' σ s ex _ _ _ _ (f.set mm) (f.set mm).ev Rl L E rfl (fun d σ₂ s₂ W₂ R₂ le₂ q => ?_) (((hx.le le).back f).set (m := mm)).px
      cases d with
      | true =>
        replace q := sel_true.mp q
        exact h (fb.setm mm) k ρ W₂ σ₂ s₂ ex R _ _ _ (f.set mm) rfl R₂ (LocF.le L Rl.cm le₂) q
          (fun ρ' σ' s₃ W₃ m₃ R₃ le₃ L₃ E₃ => ⟨m, Nat.lt_succ_self _, ρ', σ', W₃, m₃, le.trans (le₂.trans le₃), R₃, L₃, E₃⟩)
          (fun v av σ' s₃ W₃ m₃ R₃ le₃ V q => hr _ _ _ _ _ m₃ R₃ (le.trans (le₂.trans le₃)) V q) (((hx.le (le.trans le₂)).back f).set (m := mm))
      | false => exact wpAny_execs_nil (hn _ _ _ _ mm R₂ (le.trans le₂) (LocF.le L Rl.cm le₂) (sel_false.mp q))

/-- names in a row -/
theorem snd_binds : ∀ {nms : List (Str × Pos)} {avs : List AV} {vs : List Value} {fb : FB} {ρ ρ' : Loc} {W : GW} {σ : St} {s : Shared} {Q : Unit → Shared → Prop} {Ec : Value → Shared → Prop}, FB.ok fb c n → RelF c fb W σ s → LocF c fb fb.env W ρ → VRs c.CR W avs vs →
    (∀ q ∈ nms, fb.env.kindOf q.1 = some .local) → bindN (nms.map fun q => cp q.1) avs ρ = some ρ' → (∀ s' m', RelF c (fb.setm m') W σ s' → LocF c (fb.setm m') fb.env W ρ' → Q () s') →
    wpAny (model c.prog c.w) fb.A (assignInOrder (nms.map fun q => assign (.Name q.1 q.2) fb.env) vs) Q Ec s
  | [], avs, vs, fb, ρ, ρ', W, σ, s, Q, Ec, f, R, L, V, hk, hb, hq => by
    cases V with
    | nil =>
      obtain rfl := Option.some.inj (show some ρ = some ρ' from hb)
      exact assignInOrder_nil (hq _ fb.m R L)
    | cons => exact no_some hb
  | q :: nms, avs, vs, fb, ρ, ρ', W, σ, s, Q, Ec, f, R, L, V, hk, hb, hq => by
    cases V with
    | nil => exact no_some hb
    | @cons a v l ws V Vs =>
      refine assignInOrder_cons (PyProof.Rows.assign_Name (snd_store f R L (hk q (.head _)) V fun s' m' R' L' => ?_))
      exact snd_binds (fb := fb.setm m') (f.set m') R' L' Vs (fun q hq => hk q (.tail _ hq)) hb fun s'' m'' R'' L'' => hq s'' m'' R'' L''
theorem snd_bindsR : ∀ {nms : List Str} {avs : List AV} {vs : List Value} {fb : FB} {ρ ρ' : Loc} {W : GW} {σ : St} {s : Shared} {Q : Unit → Shared → Prop} {Ec : Value → Shared → Prop}, FB.ok fb c n → RelF c fb W σ s → LocF c fb fb.env W ρ → VRs c.CR W avs vs →
    (∀ q ∈ nms, fb.env.kindOf q = some .local) → bindN (nms.map cp) avs ρ = some ρ' → (∀ s' m', RelF c (fb.setm m') W σ s' → LocF c (fb.setm m') fb.env W ρ' → Q () s') →
    wpAny (model c.prog c.w) fb.A (assignInOrder (nms.map fun q => bindName fb.env q) vs) Q Ec s
  | [], avs, vs, fb, ρ, ρ', W, σ, s, Q, Ec, f, R, L, V, hk, hb, hq => by
    cases V with
    | nil =>
      obtain rfl := Option.some.inj (show some ρ = some ρ' from hb)
      exact assignInOrder_nil (hq _ fb.m R L)
    | cons => exact no_some hb
  | q :: nms, avs, vs, fb, ρ, ρ', W, σ, s, Q, Ec, f, R, L, V, hk, hb, hq => by
    cases V with
    | nil => exact no_some hb
    | @cons a v l ws V Vs =>
      refine assignInOrder_cons (wpAny_bindName (snd_store f R L (hk q (.head _)) V fun s' m' R' L' => ?_))
      exact snd_bindsR (fb := fb.setm m') (f.set m') R' L' Vs (fun q hq => hk q (.tail _ hq)) hb fun s'' m'' R'' L'' => hq s'' m'' R'' L''

theorem each_names {env : Env} : ∀ nms : List (Str × Pos), assignEach (nms.map fun q => Expr.Name q.1 q.2) env = nms.map fun q => (false, assign (.Name q.1 q.2) env)
  | [] => rfl
  | q :: r => by rw [List.map_cons, List.map_cons, ← each_names r]; rfl
theorem VRs.rev {CR W} {l ws} (h : VRs CR W l ws) : VRs CR W l.reverse ws.reverse :=
  VRs.ind (P := fun l ws => VRs CR W l.reverse ws.reverse) .nil (fun V _ ih => by rw [List.reverse_cons, List.reverse_cons]; exact ih.append (.cons V .nil)) h
theorem bindN_len {xs : List (List Nat)} : ∀ {vs : List AV} {ρ ρ' : Loc}, bindN xs vs ρ = some ρ' → xs.length = vs.length := by
  induction xs with
  | nil =>
    intro vs ρ ρ' h
    cases vs with
    | nil => rfl
    | cons _ _ => exact no_some h
  | cons x xs ih =>
    intro vs ρ ρ' h
    cases vs with
    | nil => exact no_some h
    | cons v vs => exact congrArg Nat.succ (ih (vs := vs) h)

theorem s_tup {env : Env} {nms : List (Str × Pos)} {e : Expr} {y : X} {kk tp pos} (h : SE c C n env e y) (hk : ∀ q ∈ nms, env.kindOf q.1 = some .local)
    (hs : swapsWithSole [.Tuple (nms.map fun q => Expr.Name q.1 q.2) kk tp] e pos.line env = pure false) (hw : swappedStores [.Tuple (nms.map fun q => Expr.Name q.1 q.2) kk tp] e env = pure none) :
    S1 c C n env (.Assign [.Tuple (nms.map fun q => Expr.Name q.1 q.2) kk tp] e pos) (.asg (.tup (nms.map fun q => cp q.1)) y) := by
  intro fb k ρ W σ s ex R N Qc Ec f he Rl L E hn hr hx
  subst he
  cases k with
  | zero => exact E.elim
  | succ k =>
    refine Assign_Tuple (h _ _ _ _ _ _ _ _ _ _ f f.ev Rl L E (fun v av σ' s' W' R' le V q => ?_) hx.px) hs hw
    obtain ⟨vs, hp, q⟩ := osB_inv q
    obtain ⟨ρ', hb, q⟩ := osB_inv q
    have hlen := bindN_len hb
    rw [List.length_map] at hlen
    have hf0 : List.findIdx? (fun x : Bool × (Value → Sem Unit) => x.1) (assignEach (nms.map fun q => Expr.Name q.1 q.2) fb.env) = none := by
      rw [each_names, List.findIdx?_eq_none_iff]
      intro x hx'
      obtain ⟨q, _, rfl⟩ := List.mem_map.mp hx'
      rfl
    have hmap : List.map (fun x : Bool × (Value → Sem Unit) => x.2) (assignEach (nms.map fun q => Expr.Name q.1 q.2) fb.env) = nms.map fun q => assign (.Name q.1 q.2) fb.env := by
      rw [each_names, List.map_map]; rfl
    have go : ∀ (ws : List Value) (h' : Heap), VRs c.CR W' vs ws → RelF c fb W' σ' { s' with heap := h' } → wpAny (model c.prog c.w) fb.A (assignInOrder (List.map (fun x : Bool × (Value → Sem Unit) => x.2) (assignEach (nms.map fun q => Expr.Name q.1 q.2) fb.env)) ws) (fun _ => Qc .next) Ec { s' with heap := h' } := fun ws h' Vs R₂ => by
      rw [hmap]
      exact snd_binds f R₂ (LocF.le L Rl.cm le) Vs hk hb fun s'' m' R₃ L₃ => hn _ _ _ _ m' R₃ le L₃ q
    have hel : ∀ {ws : List Value}, VRs c.CR W' vs ws → (assignEach (nms.map fun q => Expr.Name q.1 q.2) fb.env).length = ws.toArray.size := fun g2 => by
      rw [each_names, List.length_map, List.size_toArray, g2.length, hlen]
    cases av with
    | tup l =>
      obtain rfl := Option.some.inj hp
      obtain ⟨a, ws, rfl, g1, g2⟩ := V.tup_inv
      refine assign_Tuple_tuple f.hd (R'.isTup f.stays g1) (hel g2) hf0 fun h' hx' => ?_
      exact go _ h' g2 (R'.to (tk := s'.toks) (R'.F.extBut hx' (Nat.le_refl _)) (R'.N.extBut hx' (Nat.le_refl _)))
    | lst l =>
      obtain rfl := Option.some.inj hp
      obtain ⟨a, ws, rfl, g1, g2⟩ := V.lst_inv
      exact kun_list R'.F R'.N (R'.isList f.stays g1) f.hd (hel g2) hf0 fun h' F' N' => go _ h' g2 (R'.to (tk := s'.toks) F' N')
    | _ => exact no_some hp

theorem s_rtup {env : Env} {nms : List Str} {ps : List Expr} {e : Expr} {y : X} {kk tp pos} (h : SE c C n env e y) (hk : ∀ q ∈ nms, env.kindOf q = some .local)
    (hs : swapsWithSole [.Tuple ps kk tp] e pos.line env = pure false) (hw : swappedStores [.Tuple ps kk tp] e env = pure (some nms)) :
    S1 c C n env (.Assign [.Tuple ps kk tp] e pos) (.asg (.rtup (nms.map cp)) y) := by
  intro fb k ρ W σ s ex R N Qc Ec f he Rl L E hn hr hx
  subst he
  cases k with
  | zero => exact E.elim
  | succ k =>
    refine Assign_Tuple_swapped (h _ _ _ _ _ _ _ _ _ _ f f.ev Rl L E (fun v av σ' s' W' R' le V q => ?_) hx.px) hs hw
    obtain ⟨vs, hp, q1⟩ := osB_inv q
    obtain ⟨ρ', hb, q2⟩ := osB_inv q1
    have hlen := bindN_len hb
    rw [List.length_reverse, List.length_map, List.length_reverse] at hlen
    cases av with
    | tup l =>
      obtain rfl := Option.some.inj hp
      obtain ⟨a, ws, rfl, g1, g2⟩ := V.tup_inv
      have e1 : nms.length = ws.toArray.size := by rw [List.size_toArray, g2.length, hlen]
      rw [e1]
      refine PyProof.Rows.unpackItems_tuple f.hd (R'.isTup f.stays g1) fun h' hx' => ?_
      refine snd_bindsR (nms := nms.reverse) f (R'.to (tk := s'.toks) (R'.F.extBut hx' (Nat.le_refl _)) (R'.N.extBut hx' (Nat.le_refl _))) (LocF.le L Rl.cm le) g2.rev (fun q hq => hk q (List.mem_reverse.mp hq)) (by rw [List.map_reverse]; exact hb) fun s'' m' R₃ L₃ => hn _ _ _ _ m' R₃ le L₃ q2
    | _ => exact no_some hp
end
end
section
open PySem PySem.W PyProof.Rows PySem.Calls
open PyProof.Rows.LCg (NsObj ns_obj NsObj.ns)
section
variable {c : Cx} {C : Ctr} {n : Nat} {fb : FB} {W W' : GW} {σ : St} {s : Shared} {Ec : Value → Shared → Prop} {ρ : Loc}

noncomputable def FB.wh (fb : FB) (l : Led) : FB := { fb with Hid := l }
theorem RelF.perm {l l' : Led} (h : l.Perm l') (R : RelF c (fb.wh l) W σ s) : RelF c (fb.wh l') W σ s where
  nd := by
    have hp : (led W l').Perm (led W l) := (List.Perm.append_left _ (List.Perm.append_right _ h)).symm
    show ((led W l').map _).Nodup
    rw [(hp.map _).nodup_iff]; exact R.nd
  hr := R.hr
  g := R.g
  cm := R.cm
  ns := R.ns
  F := R.F
  N := fun q hq => R.N q ((List.Perm.append_left _ (List.Perm.append_right _ h)).symm.mem_iff.mp hq)
  sm := R.sm
theorem RelF.toImm {D : Addr} {o : Obj} (R : RelF c (fb.hid (D, o)) W σ s) : RelF c fb { W with I := (D, o) :: W.I } σ s where
  nd := nd_imm R.unhid.nd R.toLg.notIn
  hr := R.hr.mono R.cm le_imm
  g := R.g
  cm := R.cm
  ns := R.ns
  F := R.F
  N := fun q hq => R.list q (mem_imm hq)
  sm := R.sm

/-- the comprehension's names are gone: what flies goes on -/
theorem funFrames_but {h h' B : Heap} {a : Addr} (hs : Heap.SameBut a h h') (hB : B.get? a ≠ none) : ∀ {l : List Env}, h.FunFrames B l → h'.FunFrames (B.hide a) l
  | [], _ => trivial
  | env :: _, ⟨hk, ⟨L, o, hf, hn, ho, hd⟩, hr⟩ => by
    have ne : L ≠ a := fun e => hB (e ▸ hn)
    exact ⟨hk, ⟨L, o, hf, by rw [Heap.hide_ne B ne]; exact hn, by rw [hs.2 L ne]; exact ho, hd⟩, funFrames_but hs hB hr⟩
theorem any_but {B : Heap} {l : List Env} {e a : Addr} {cls a0 fl : Value} {h h' : Heap} (hh : AnyW B l e cls a0 fl h) (hs : Heap.SameBut a h h') (hB : B.get? a ≠ none) : AnyW (B.hide a) l e cls a0 fl h' := by
  obtain ⟨x1, x2, x3, oe, vs, T, oT, ts, he, hc, hd, h1, hnT, hTe, hT, hdT, h3⟩ := hh
  have nee : e ≠ a := fun q => hB (q ▸ x2)
  have neT : T ≠ a := fun q => hB (q ▸ hnT)
  refine ⟨fun b o hb => ?_, by rw [Heap.hide_ne B nee]; exact x2, funFrames_but hs hB x3, oe, vs, T, oT, ts, by rw [hs.2 e nee]; exact he, hc, hd, h1, by rw [Heap.hide_ne B neT]; exact hnT, hTe, by rw [hs.2 T neT]; exact hT, hdT, h3⟩
  have nb : b ≠ a := fun q => by rw [q, Heap.hide_self] at hb; cases hb
  rw [hs.2 b nb]
  rw [Heap.hide_ne B nb] at hb
  exact x1 b o hb
theorem ledIn_but {base B : Heap} {a : Addr} {o : Obj} {l l' : Led} (x : LedIn base l B) (ha : (a, o) ∈ l) (hl : ∀ q ∈ l', q ∈ l ∧ q.1 ≠ a) : LedIn base l' (B.hide a) := by
  refine ⟨fun b ob hb => ?_, fun q hq => ⟨?_, (x.2 q (hl q hq).1).2⟩⟩
  · have nb : b ≠ a := fun e => by have := (x.2 _ ha).2; rw [e] at hb; dsimp only at this; rw [this] at hb; cases hb
    rw [Heap.hide_ne B nb]; exact x.1 b ob hb
  · rw [Heap.hide_ne B (hl q hq).2]; exact (x.2 q (hl q hq).1).1
theorem upTo_but {g h h' : Heap} {a : Addr} (x : g.UpToSlots h) (hs : Heap.SameBut a h h') : (g.hide a).UpToSlots h' := fun b o hb hn => by
  have nb : b ≠ a := fun q => by rw [q, Heap.hide_self] at hb; cases hb
  rw [Heap.hide_ne g nb] at hb
  obtain ⟨sl, e⟩ := x b o hb hn
  exact ⟨sl, by rw [hs.2 b nb]; exact e⟩
theorem fr_but' {h₀ g : Heap} {L a : Addr} {m : Str → Option Value} (F : Fr h₀ L g m) (hL : a ≠ L) (h0 : h₀.get? a = none) : Fr h₀ L (g.hide a) m := by
  obtain ⟨⟨oL, a1, a2, hoL, a3⟩, hk, ha⟩ := F
  exact ⟨⟨oL, a1, a2, by rw [Heap.hide_ne g (Ne.symm hL)]; exact hoL, a3⟩, fun b o e => by rw [Heap.hide_ne g (fun q => by rw [q, h0] at e; cases e)]; exact hk b o e, ha⟩

theorem look_keep {α : Type} {fs : List (List Nat)} {y : List Nat} {v : α} : ∀ {ρ : List (List Nat × α)}, look y (keepL fs ρ) = some v → look y ρ = some v ∧ fs.contains y = true
  | [], h => no_some h
  | (z, u) :: r, h => by
    rw [keepL_cons] at h
    rw [look_cons]
    by_cases hz : fs.contains z = true
    · rw [if_pos hz, look_cons] at h
      by_cases e : y = z
      · rw [if_pos e] at h ⊢; exact ⟨h, e ▸ hz⟩
      · rw [if_neg e] at h ⊢; exact look_keep h
    · rw [if_neg hz] at h
      obtain ⟨h1, h2⟩ := look_keep (ρ := r) h
      refine ⟨?_, h2⟩
      by_cases e : y = z
      · exact absurd (e ▸ h2) hz
      · rw [if_neg e]; exact h1

theorem FB.ok.wh (f : FB.ok fb c n) {l : Led} (hl : ∀ p ∈ fb.Hid, p ∈ l) : FB.ok (fb.wh l) c n := ⟨⟨f.B, f.X, f.T, f.fr, f.hf, f.hk, f.lo, f.gl, f.bi, f.hd⟩, f.dp, f.un, fun q hq => hl q (f.ce q hq)⟩
noncomputable def FB.wc (fb : FB) (p : Addr × Obj) : FB := { fb with Cel := p :: fb.Cel }
theorem FB.ok.wc (f : FB.ok fb c n) {p} (hp : p ∈ fb.Hid) : FB.ok (fb.wc p) c n := ⟨⟨f.B, f.X, f.T, f.fr, f.hf, f.hk, f.lo, f.gl, f.bi, f.hd⟩, f.dp, f.un, fun q hq => by
  rcases List.mem_cons.mp hq with rfl | hq
  · exact hp
  · exact f.ce q hq⟩
theorem Lg.dropL {l Hid : Led} (R : Lg c (l ++ Hid) W σ) : Lg c Hid W σ := by
  induction l with
  | nil => exact R
  | cons p l ih => exact ih (Lg.drop (p := p) R)
theorem compL_drop {body : AV → St → KE → Prop} {items : List AV} {i : Nat} {a : AV} {σ N} (h : items[i]? = some a) (E : compL body (items.drop i) σ N) : body a σ fun u σ' => compL body (items.drop (i + 1)) σ' fun us σ'' => N (u :: us) σ'' := by
  obtain ⟨hl, e⟩ := List.getElem?_eq_some_iff.mp h
  rw [List.drop_eq_getElem_cons hl, e] at E
  exact E
theorem compL_end {body : AV → St → KE → Prop} {items : List AV} {i : Nat} {σ N} (h : items[i]? = none) (E : compL body (items.drop i) σ N) : N [] σ := by
  rw [List.drop_eq_nil_of_le (List.getElem?_eq_none_iff.mp h)] at E
  exact E

/-- how a list comprehension stands between two turns -/
inductive CInv (c : Cx) (fb : FB) (W : GW) (items : List AV) (J : Nat → Obj → Prop) (Kp : GW → Prop) (I Cc D : Addr) (body : AV → St → KE → Prop) (Q : List AV → St → Prop) (m : Nat) (s : Shared) : Prop
  | mk (i : Nat) (W' : GW) (σ : St) (o oC : Obj) (mC : Str → Option Value) (us : List AV) (ws : List Value) (nn : Nat) : m = items.length - i → i ≤ items.length → J i o → Kp W' → W.Le W' → NsObj oC mC → VRs c.CR W' us ws → us.length = i →
    RelF c (fb.wh ((I, o) :: (Cc, oC) :: (D, listOf ws.toArray nn) :: fb.Hid)) W' σ s → (compL body (items.drop i) σ fun vs σ' => Q (us ++ vs) σ') → CInv c fb W items J Kp I Cc D body Q m s
theorem snd_comp {ev : Env} {elt it : Expr} {x : Str} {xp pos pos' : Pos} {scope : Scope} {e' it' : X} {cl : List (Str × Addr)} {fs : List (List Nat)} {use : Option (Value → Sem Unit)}
    (h0 : SI c C n ev it it') (h : ∀ a, SE c C n (compEnvC scope cl a ev) elt e') (hf : ∀ v, foldedSetIterable it ev v = pure v) (hclos : closureFor scope ev = pure cl) (hkind : scope.kind = .function)
    (hcell : ∀ y ∈ scope.names, y.2 ≠ .cell) (hnames : ∀ y ∈ scope.names, y.2 = .local → scope.names.lookup y.1 = some .local) (hxl : scope.names.lookup x = some .local)
    (hfs : ∀ y, fs.contains y = true → ev.kindOf ⟨y.toArray⟩ = some .cell ∧ (∀ a, (compEnvC scope cl a ev).kindOf ⟨y.toArray⟩ = some .cell) ∧ cl.lookup ⟨y.toArray⟩ = ev.cells.lookup ⟨y.toArray⟩)
    {fb : FB} {k : Nat} {ρ : Loc} {W : GW} {σ : St} {s : Shared} {ex : St → Prop} {Q : KE} {Qc Ec : Value → Shared → Prop} (f : FB.ok fb c n) (eo : EvOk fb ev) (R : RelF c fb W σ s) (L : LocF c fb ev W ρ)
    (E : srcE (evE C ex k ρ) it' σ fun items σ' => items.length ≤ 1000 ∧ compL (fun v σ₁ K => evE C ex k ((cp x, v) :: keepL fs ρ) e' σ₁ K) items σ' fun vs σ'' => Q (.lst vs) σ'')
    (hfin : ∀ D Cc oC mC vs σ' s' W', NsObj oC mC → RelF c (fb.hid (Cc, oC)) W' σ' s' → W.Le W' → VR c.CR W' (.lst vs) (.ref D) → Q (.lst vs) σ' → compPost (model c.prog c.w) fb.A Ec use Qc (.ref D) Cc (.ok .next) s') (hx : PX c fb W ex Ec) :
    wpAny (model c.prog c.w) fb.A (comprehension (.ListComp elt [⟨.Name x xp, it, [], 0⟩] scope pos) scope ev pos' (newList []) false (eval it ev) use) Qc Ec s := by
  refine wpAny_comprehension_free (g := ⟨.Name x xp, it, [], 0⟩) (gs := []) rfl hf hclos hkind hnames ?_
  refine h0 fb k ρ W σ s ex _ _ Ec f eo R L E (fun items I J Kp o s₂ σ₂ W₂ S hJ hK R₂ le₂ q => ?_) hx
  obtain ⟨hlen, q⟩ := q
  refine newList_N R₂.F R₂.N (fun h₃ F₃ N₃ => ?_) (by rw [sizeLine_eq]; simp)
  have R₃ := RelF.tohid (p := (s₂.heap.objs.size, { cls := .type "list", data := .seq ([] : List Value).toArray })) R₂ (tk := s₂.toks) F₃ N₃ R₂.fresh
  generalize hD : s₂.heap.objs.size = D at R₃ ⊢
  refine wpAny_newFunctionEnv hcell (by intro y hy; simp at hy) (fun h₄ hns₄ hsb₄ => ?_) hkind
  dsimp only at hns₄ hsb₄ ⊢
  generalize hCc : h₃.objs.size = Cc at hns₄ hsb₄ ⊢
  obtain ⟨oC, hoC, nsC⟩ := ns_obj hns₄
  have F₄ := R₃.F.push { cls := .type (if (some ev).isSome = true then "dict" else "frame"), data := .dict #[] }
  have N₄ := News.push R₃.F R₃.N { cls := .type (if (some ev).isSome = true then "dict" else "frame"), data := .dict #[] }
  dsimp only at F₄ N₄
  rw [hCc] at N₄
  have fr₄ : ∀ q ∈ led W₂ (((fb.hid (I, o)).hid (D, { cls := .type "list", data := .seq ([] : List Value).toArray })).Hid), q.1 ≠ Cc := fun q hq => by
    have := R₃.fresh q hq
    dsimp only at this
    rwa [hCc] at this
  have m₄ := N₄ _ (.head _)
  have hCL : Cc ≠ fb.L := m₄.2.1
  have hC0 : fb.h₀.get? Cc = none := m₄.2.2
  have R₄ : RelF c (fb.wh ((Cc, oC) :: (D, listOf ([] : List Value).toArray 0) :: (I, o) :: fb.Hid)) W₂ σ₂ { s₂ with heap := h₄, toks := s₂.toks + 0 } :=
    RelF.tohid (fb := fb.wh ((D, listOf ([] : List Value).toArray 0) :: (I, o) :: fb.Hid)) R₃ (F₄.change hsb₄ m₄.2.1 m₄.2.2) (News.setIn (own := []) N₄ (fun p (h : p ∈ []) => absurd h List.not_mem_nil) fr₄ hsb₄ hoC) fr₄
  have loop : codeAny (model c.prog c.w) fb.A (Code.compLoop (.ListComp elt [⟨.Name x xp, it, [], 0⟩] scope pos) 0 (.ref I) (.ref D) (compEnvC scope cl Cc ev)) (compPost (model c.prog c.w) fb.A Ec use Qc (.ref D) Cc) { s₂ with heap := h₄, toks := s₂.toks + 0 } := by
    refine codeAny_compLoop_list (CInv c fb W items J Kp I Cc D (fun v σ₁ K => evE C ex k ((cp x, v) :: keepL fs ρ) e' σ₁ K) fun vs σ'' => Q (.lst vs) σ'') ?_ items.length ?_ (by intro v; rfl)
    · rintro m s ⟨i, W', σ', o, oC, mC, us, ws, nn, rfl, hi, hJ, hK, le, nsC, Vs, hus, Rl, E⟩
      have okW : ∀ {p q r}, FB.ok (fb.wh (p :: q :: r :: fb.Hid)) c n := f.wh fun p hp => .tail _ (.tail _ (.tail _ hp))
      cases hq : items[i]? with
      | none =>
        refine S.done (fb.wh ((Cc, oC) :: (D, listOf ws.toArray nn) :: fb.Hid)) n W' σ' s i o _ _ (f.wh fun p hp => .tail _ (.tail _ hp)) hq hJ hK Rl fun s' R' => ?_
        have R'' := RelF.toImm (fb := fb.wh ((Cc, oC) :: fb.Hid)) (RelF.perm (l' := (D, listOf ws.toArray nn) :: (Cc, oC) :: fb.Hid) (List.Perm.swap _ _ _) R')
        have E' := compL_end hq E
        rw [List.append_nil] at E'
        exact hfin D Cc oC mC us σ' s' _ nsC R'' (le.trans le_imm) (.lst ⟨_, _, .inl (.head _), rfl, rfl⟩ (Vs.mono R'.cm le_imm)) E'
      | some a =>
        have hlt := (List.getElem?_eq_some_iff.mp hq).1
        refine S.item (fb.wh ((Cc, oC) :: (D, listOf ws.toArray nn) :: fb.Hid)) n W' σ' s i o a _ _ (f.wh fun p hp => .tail _ (.tail _ hp)) hq hJ hK Rl fun v o' s' hJ' V R' => ?_
        have R'p := RelF.perm (l' := (Cc, oC) :: (I, o') :: (D, listOf ws.toArray nn) :: fb.Hid) (List.Perm.swap _ _ _) R'
        refine PyProof.Rows.assign_Name (wpAny_storeName_local (lookup_relabel_local hxl) (nsC.ns (RelF.mem (fb := fb.wh ((I, o') :: (D, listOf ws.toArray nn) :: fb.Hid)) R'p)) (fun h₅ hn₅ hs₅ => ?_) (by simp [compEnvC, relabel, hkind]))
        obtain ⟨oC', hoC', nsC'⟩ := ns_obj hn₅
        have R₅ := RelF.perm (l' := (I, o') :: (Cc, oC') :: (D, listOf ws.toArray nn) :: fb.Hid) (List.Perm.swap _ _ _) (RelF.rehid (fb := fb.wh ((I, o') :: (D, listOf ws.toArray nn) :: fb.Hid)) (tk := s'.toks + 1) R'p hs₅ hoC')
        have hpc : (Cc, oC') ∈ (fb.wh ((I, o') :: (Cc, oC') :: (D, listOf ws.toArray nn) :: fb.Hid)).Hid := .tail _ (.head _)
        have fC := (okW (p := (I, o')) (q := (Cc, oC')) (r := (D, listOf ws.toArray nn))).wc hpc
        have LC : LocF c ((fb.wh ((I, o') :: (Cc, oC') :: (D, listOf ws.toArray nn) :: fb.Hid)).wc (Cc, oC')) (compEnvC scope cl Cc ev) W' ((cp x, a) :: keepL fs ρ) := fun y av hy => by
          rw [look_cons] at hy
          by_cases e : y = cp x
          · rw [if_pos e] at hy
            cases hy
            subst e
            have en : (⟨(cp x).toArray⟩ : Str) = x := by simp [cp]
            rw [en]
            exact ⟨v, V, .com oC' _ (lookup_relabel_local (env := ev) hxl) (.head _) (fun h hh => nsC'.ns hh) (by simp)⟩
          · rw [if_neg e] at hy
            obtain ⟨h1, h2⟩ := look_keep hy
            obtain ⟨g1, g2, g3⟩ := hfs y h2
            obtain ⟨v', V', N'⟩ := L y av h1
            refine ⟨v', V'.mono R.cm le, ?_⟩
            cases N' with
            | loc a b d => rw [g1] at a; cases a
            | com o mc a b d g => rw [g1] at a; cases a
            | cell kk oo a b d g => 
              refine .cell kk oo (.inl (g2 Cc)) (g3.trans b) ?_ g
              rcases List.mem_append.mp d with d | d
              · exact .tail _ (List.mem_append_left _ d)
              · exact .tail _ (List.mem_append_right _ (le.im _ d))
        refine h Cc ((fb.wh ((I, o') :: (Cc, oC') :: (D, listOf ws.toArray nn) :: fb.Hid)).wc (Cc, oC')) k _ W' σ' _ ex _ _ _ fC ⟨hkind, eo.g, eo.b, eo.f⟩ R₅ LC (compL_drop hq E) (fun v₆ av₆ σ₆ s₆ W₆ R₆ le₆ V₆ q₆ => ?_) ?_
        · have R₆' : RelF c (fb.wh ((I, o') :: (Cc, oC') :: (D, listOf ws.toArray nn) :: fb.Hid)) W₆ σ₆ s₆ := R₆
          have R₆p := RelF.perm (l' := (D, listOf ws.toArray nn) :: (I, o') :: (Cc, oC') :: fb.Hid) (by
            refine List.Perm.trans (List.Perm.cons _ (List.Perm.swap _ _ _)) ?_
            exact List.Perm.swap _ _ _) R₆'
          have hlw : ws.length = i := by rw [Vs.length, hus]
          refine append_at (n := nn) (RelF.mem (fb := fb.wh ((I, o') :: (Cc, oC') :: fb.Hid)) R₆p) (fun h₇ hs₇ ho₇ => ?_) (by rw [sizeLine_eq]; simp; omega)
          have R₇ := RelF.rehid (fb := fb.wh ((I, o') :: (Cc, oC') :: fb.Hid)) (tk := s₆.toks) R₆p hs₇ ho₇
          refine ⟨items.length - (i + 1), turn_lt hlt, i + 1, W₆, σ₆, o', oC', _, us ++ [av₆], ws ++ [v₆], nn + 1, rfl, hlt, hJ', S.mono R.cm le₆ hK, le.trans le₆, nsC', (Vs.mono R.cm le₆).append (.cons V₆ .nil), by simp [hus], ?_, ?_⟩
          · have e1 : ws.toArray.push v₆ = (ws ++ [v₆]).toArray := by simp
            rw [e1] at R₇
            exact RelF.perm (by
              refine List.Perm.trans (List.Perm.swap _ _ _) ?_
              exact List.Perm.cons _ (List.Perm.swap _ _ _)) R₇
          · simpa using q₆
        · intro e σ₆ s₆ W₆ R₆ le₆ q₆
          obtain ⟨a₆, rfl, w₆⟩ := R₆.way
          refine way_note (fb := (fb.wh ((I, o') :: (Cc, oC') :: (D, listOf ws.toArray nn) :: fb.Hid)).wc (Cc, oC')) (p := 0) (k := 0) fC w₆ eo.f fun h₇ g B a0 x1 x2 x3 x4 => ?_
          have hCm : (Cc, oC') ∈ led W₆ ((I, o') :: (Cc, oC') :: (D, listOf ws.toArray nn) :: fb.Hid) := List.mem_append_right _ (.tail _ (.head _))
          have hCB := (x2.2 _ hCm).1
          refine ⟨_, nsC'.ns (x3.1 _ _ hCB), fun h₈ hs₈ cenv₂ hc₂ => ?_⟩
          have hBn : B.get? Cc ≠ none := by rw [hCB]; exact fun q => by cases q
          have y3 := any_but (h' := h₈) x3 hs₈ hBn
          have lg : Lg c ((I, o') :: (Cc, oC') :: (D, listOf ws.toArray nn) :: fb.Hid) W₆ σ₆ := R₆.toLg
          have lg2 : Lg c ((Cc, oC') :: (D, listOf ws.toArray nn) :: fb.Hid) W₆ σ₆ := lg.drop
          have y2 := ledIn_but (l' := led W₆ fb.Hid) x2 hCm fun q hq => by
            have hq2 : q ∈ led W₆ ((D, listOf ws.toArray nn) :: fb.Hid) := hid_perm.mem_iff.mpr (.tail _ hq)
            exact ⟨hid_perm.mem_iff.mpr (.tail _ (hid_perm.mem_iff.mpr (.tail _ hq2))), lg2.notIn q hq2⟩
          have y4 := upTo_but x4 hs₈
          have y1 := fr_but' x1 hCL hC0
          obtain ⟨z1, z2, z3, oe, vs, T, oT, ts, he, hcls, hd, h1, r⟩ := y3
          unfold PySem.passOn
          refine wpAny_bind (wpAny_field he hd h1 ?_)
          rw [if_neg (show ¬ ((Value.ref T == Value.none) = true) from by simp)]
          refine wpAny_bind (fly_any (s := { s₆ with heap := h₈ }) ⟨z1, z2, z3, oe, vs, T, oT, ts, he, hcls, hd, h1, r⟩ fun h₉ u1 u2 => ?_)
          exact wpAny_throw (hx _ σ₆ _ W₆ ⟨lg2.drop.drop, ⟨R₆.sm.1, R₆.sm.2, R₆.sm.3⟩, a₆, rfl, .fly (g.hide Cc) (B.hide Cc) a0 _ y1 y2 u1 (y4.trans u2)⟩ (le.trans le₆) q₆)
    · refine ⟨0, W₂, σ₂, o, oC, _, [], [], 0, rfl, Nat.zero_le _, hJ, hK, le₂, nsC, .nil, rfl, ?_, by simpa using q⟩
      refine RelF.perm ?_ R₄
      refine List.Perm.trans (List.Perm.cons _ (List.Perm.swap _ _ _)) ?_
      exact List.Perm.swap _ _ _
  show codeAny _ _ (Code.compStart _ 0 (.ref I) (.ref D) (compEnvC scope cl Cc ev)) _ _
  refine codeAny_compStart_list loop ?_
  refine S.self (fb.wh ((Cc, oC) :: (D, listOf ([] : List Value).toArray 0) :: fb.Hid)) n W₂ σ₂ _ 0 o _ _ (f.wh fun p hp => .tail _ (.tail _ hp)) hJ (RelF.perm (by
      refine List.Perm.trans (List.Perm.cons _ (List.Perm.swap _ _ _)) ?_
      exact List.Perm.swap _ _ _) R₄) loop
end
end
section
open PySem PySem.W PyProof.Rows PySem.Calls
open PyProof.Rows.LCg (NsObj ns_obj NsObj.ns)
section
variable {c : Cx} {C : Ctr} {n : Nat} {ev : Env}

/-- what a comprehension's parts say -/
structure CompOk (c : Cx) (C : Ctr) (n : Nat) (ev : Env) (elt it : Expr) (x : Str) (scope : Scope) (e' it' : X) (fs : List (List Nat)) : Prop where
  si : SI c C n ev it it'
  cl : ∃ cl, closureFor scope ev = pure cl ∧ (∀ a, SE c C n (compEnvC scope cl a ev) elt e') ∧ ∀ y, fs.contains y = true → ev.kindOf ⟨y.toArray⟩ = some .cell ∧ (∀ a, (compEnvC scope cl a ev).kindOf ⟨y.toArray⟩ = some .cell) ∧ cl.lookup ⟨y.toArray⟩ = ev.cells.lookup ⟨y.toArray⟩
  hf : ∀ v, foldedSetIterable it ev v = pure v
  hkind : scope.kind = .function
  hcell : ∀ y ∈ scope.names, y.2 ≠ .cell
  hnames : ∀ y ∈ scope.names, y.2 = .local → scope.names.lookup y.1 = some .local
  hxl : scope.names.lookup x = some .local

theorem ev_comp {elt it : Expr} {x : Str} {xp pos : Pos} {scope : Scope} {e' it' : X} {fs : List (List Nat)} (h : CompOk c C n ev elt it x scope e' it' fs) : SE c C n ev (.ListComp elt [⟨.Name x xp, it, [], 0⟩] scope pos) (.comp e' (cp x) fs it') := by
  intro fb k' ρ W σ s ex Q Qc Ec f eo R L E hq hx
  cases k' with
  | zero => exact E.elim
  | succ k' =>
    obtain ⟨cl, h1, h2, h3⟩ := h.cl
    show wpAny _ _ (comprehension (.ListComp elt [⟨.Name x xp, it, [], 0⟩] scope pos) scope ev _ (newList []) false (eval it ev) none) _ _ _
    refine snd_comp h.si h2 h.hf h1 h.hkind h.hcell h.hnames h.hxl h3 f eo R L E (fun D Cc oC mC vs σ' s' W' nsC R' le V q => ?_) hx
    exact ⟨mC, nsC.ns R'.mem, fun h' hs => hq _ _ _ _ _ (RelF.gone (tk := s'.toks) R' hs.extBut) le V q⟩

theorem s_comp {elt it : Expr} {x y : Str} {xp yp pos pos2 : Pos} {scope : Scope} {e' it' : X} {fs : List (List Nat)} (h : CompOk c C n ev elt it x scope e' it' fs) (hk : ev.kindOf y = some .local)
    (hs : swapsWith (.ListComp elt [⟨.Name x xp, it, [], 0⟩] scope pos) (some (.Name y yp)) pos2.line ev = pure true) : S1 c C n ev (.Assign [.Name y yp] (.ListComp elt [⟨.Name x xp, it, [], 0⟩] scope pos) pos2) (.asg (.name (cp y)) (.comp e' (cp x) fs it')) := by
  intro fb k ρ W σ s ex R N Qc Ec f he Rl L E hn hr hx
  subst he
  cases k with
  | zero => exact E.elim
  | succ k =>
  cases k with
  | zero => exact False.elim E
  | succ k =>
    obtain ⟨cl, h1, h2, h3⟩ := h.cl
    rw [exec_Assign_Name_used _ _ _ _ hs]
    refine wpAny_bind (wpAny_standAt (wpAny_bind ?_))
    show wpAny _ _ (do let _ ← comprehension (.ListComp elt [⟨.Name x xp, it, [], 0⟩] scope pos) scope fb.env _ (newList []) false (eval it fb.env) (some (assign (.Name y yp) fb.env))) _ _ _
    refine wpAny_bind (wpAny_mono (snd_comp (k := k) (Q := fun v σ'' => N ((cp y, v) :: ρ) σ'') (Qc := fun _ s' => Qc .next s') h.si h2 h.hf h1 h.hkind h.hcell h.hnames h.hxl h3 f f.ev Rl L E (fun D Cc oC mC vs σ' s' W' nsC R' le V q => ?_) hx.px) (fun _ _ h => wpAny_pure (wpAny_pure h)) fun _ _ h => h)
    refine PyProof.Rows.assign_Name (snd_store (fb := fb.hid (Cc, oC)) (f.hid _) R' (LocF.le L Rl.cm le) hk V fun s'' m' R'' L'' => ?_)
    exact ⟨mC, nsC.ns (RelF.mem (fb := fb.setm m') R''), fun h' hs' => hn _ _ _ _ m' (RelF.gone (fb := fb.setm m') (tk := s''.toks) R'' hs'.extBut) le L'' q⟩

/-! ### builtins and methods -/
theorem ev_bcall {b : BI} {p pos : Pos} {args : List Expr} {xs : List X} (h : SEL c C n ev args xs) (hk : ev.kindOf b.name = some .globalImplicit) (hg : nsIn c.K mainGlobals b.name = some none)
    (hi : instArg b xs = none) : SE c C n ev (.Call (.Name b.name p) args [] pos) (.bcall b xs) := by
  intro fb k' ρ W σ s ex Q Qc Ec f eo R L E hq hx
  cases k' with
  | zero => exact E.elim
  | succ k' =>
    replace E : (match instArg b xs with
      | some a => evE C ex k' ρ a σ fun u σ' => osB (fun b => Q (.bool b) σ') (isTup u)
      | none => seqL (evE C ex k' ρ) xs σ fun vs σ' => bicall b vs σ' Q) := E
    rw [hi] at E
    refine Call_ (bi_read f.toFm R eo.k eo.g eo.b hk hg ?_)
    exact snd_callWith (P := fun _ => True) f eo R L h E (fun h _ => ⟨.machine, .inr (.inl rfl), by cases b <;> exact .now⟩) (fun vs avs σ' s' W' R' le V q => ⟨trivial, snd_bi f R' V q (hq.le le)⟩) hx
theorem ev_isinst {p p2 pos : Pos} {e : Expr} {x : X} (h : SE c C n ev e x) (hst : starEach [e] ev = [(false, eval e ev)]) (hk : ev.kindOf ("isinstance" : Str) = some .globalImplicit) (hg : nsIn c.K mainGlobals ("isinstance" : Str) = some none)
    (hk2 : ev.kindOf ("tuple" : Str) = some .globalImplicit) (hg2 : nsIn c.K mainGlobals ("tuple" : Str) = some none) : SE c C n ev (.Call (.Name "isinstance" p) [e, .Name "tuple" p2] [] pos) (.bcall .isinstance [x, .bi .tuple]) := by
  intro fb k' ρ W σ s ex Q Qc Ec f eo R L E hq hx
  cases k' with
  | zero => exact E.elim
  | succ k' =>
    replace E : evE C ex k' ρ x σ fun u σ' => osB (fun b => Q (.bool b) σ') (isTup u) := E
    have hst2 : starEach [e, .Name "tuple" p2] ev = (false, eval e ev) :: starEach [.Name "tuple" p2] ev := star_cons hst
    refine Call_ (bi_read (b := .isinstance) f.toFm R eo.k eo.g eo.b hk hg ?_)
    refine callWith_of (P := fun _ => True) (by rw [hst2]; rfl) (fun h _ => ⟨.machine, .inr (.inl rfl), .now⟩) ?_
    have go : wpAny (model c.prog c.w) fb.A (spliced (backTo pos (starEach [e, .Name "tuple" p2] ev))) (fun vs s' => True ∧ wpAny (model c.prog c.w) fb.A (call BI.isinstance.val ([] ++ vs)) Qc Ec s') Ec s := by
      refine wpAny_items_cons ?_ hst2
      refine h _ _ _ _ _ _ _ _ _ _ f eo R L E (fun v av σ' s' W' R' le V q => ?_) hx
      refine wpAny_items_cons (bi_read (b := .tuple) f.toFm R' eo.k eo.g eo.b hk2 hg2 (wpAny_items_nil ⟨trivial, ?_⟩)) rfl
      obtain ⟨b, hb, q⟩ := osB_inv q
      exact isTup_ok f R' V hb fun s'' R'' => hq _ _ _ _ _ R'' le .bool q
    rw [hst2] at go ⊢
    exact evalArgs_plain go

theorem isStrs_join {CR W} : ∀ {l : List AV} {ss : List (List Nat)} {ws : List Value}, isStrs l = some ss → VRs CR W l ws → ∃ ps : List (Str × Tok), ws = strValues ps ∧ ps.map (·.1) = ss.map fun x => ⟨x.toArray⟩ := by
  intro l
  induction l with
  | nil =>
    intro ss ws h V
    obtain rfl := Option.some.inj h
    obtain rfl := V.nil_inv
    exact ⟨[], rfl, rfl⟩
  | cons a l ih =>
    intro ss ws h V
    obtain ⟨v, r, rfl, V, Vs⟩ := V.cons_inv
    cases a with
    | str i =>
      obtain ⟨m, hl, h⟩ := obind_inv (show (isStrs l).bind (fun m => some (i :: m)) = some ss from h)
      obtain rfl := Option.some.inj h
      obtain ⟨t, rfl⟩ := V.str_inv
      obtain ⟨ps, e1, e2⟩ := ih hl Vs
      exact ⟨(⟨i.toArray⟩, t) :: ps, by rw [e1]; rfl, by rw [List.map_cons, List.map_cons, e2]⟩
    | _ => exact no_some h
theorem join_flat : ∀ ss : List (List Nat), Str.join ⟨#[]⟩ (ss.map fun x => ⟨x.toArray⟩) = ⟨ss.flatten.toArray⟩
  | [] => rfl
  | [x] => by simp [Str.join]
  | x :: y :: r => by
    have ih := join_flat (y :: r)
    simp only [List.map_cons] at ih ⊢
    unfold Str.join
    rw [ih]
    rw [show (⟨#[]⟩ : Str) = ⟨([] : List Nat).toArray⟩ from rfl, str_append, str_append]
    simp
theorem join_sum : ∀ (ss : List (List Nat)) (a : Nat), ((ss.map fun x => (⟨x.toArray⟩ : Str)).toArray.foldl (· + ·.length + (⟨#[]⟩ : Str).length) a) = a + ss.flatten.length
  | [], a => by simp
  | x :: r, a => by
    have ih := join_sum r (a + x.length)
    simp only [List.foldl_toArray, List.map_cons, List.foldl_cons] at ih ⊢
    simp only [Str.length, List.size_toArray, Nat.add_zero, List.flatten_cons, List.length_append] at ih ⊢
    simp only [List.length_nil, Nat.add_zero] at ih ⊢
    rw [ih]
    omega

theorem plain_form {es : List Expr} {xs : List X} {pos : Pos} (h : SEL c C n ev es xs) (hl : es.length < 20) : methodCallForm es.length (backTo pos (starEach es ev)) [] = true := by
  unfold methodCallForm
  rw [(stars_ok h).2]
  simp
  omega

section
variable {o : Expr} {es : List Expr} {x : X} {xs : List X} {apos pos : Pos} (h : SE c C n ev o x) (h1 : SEL c C n ev es xs) (hn : notCall o = true) (hp : apos.endLine = pos.line) (hl : es.length < 20)
include h h1 hn hp hl
theorem ev_append : SE c C n ev (.Call (.Attribute o "append" apos) es [] pos) (.meth x .append xs) := by
  intro fb k' ρ W σ s ex Q Qc Ec f eo R L E hq hx
  cases k' with
  | zero => exact E.elim
  | succ k' =>
    refine MethodCall_ (h _ _ _ _ _ _ _ _ _ _ f eo R L E (fun v av σ' s' W' R' le V E' => ?_) hx) (meth_eq hn hp (plain_form h1 hl))
    obtain ⟨i, V1, E1⟩ := V.objB (E'.1 : objB _ av)
    obtain ⟨l, e1, _⟩ := listB_inv E1
    obtain ⟨D, ws, k, A⟩ := lst_at R' V1 e1
    obtain rfl := A.eq
    refine getMethod_list_append A.get rfl rfl ?_
    refine snd_callWith (P := fun _ => True) f eo R' (LocF.le L R.cm le) h1 E'.2 (fun h _ => ⟨.machine, .inr (.inl rfl), .now⟩) (fun vs avs σ₂ s₂ W₂ R₂ le₂ V₂ q => ⟨trivial, ?_⟩) (hx.le le)
    obtain ⟨u, rfl, q⟩ := oneB_inv q
    obtain ⟨w, rfl, V₃⟩ := V₂.one_inv
    obtain ⟨i, V4, q⟩ := (V.mono R'.cm le₂).objB q
    obtain ⟨l', e2, q⟩ := listB_inv q
    obtain ⟨D', ws', k', B⟩ := lst_at R₂ V4 e2
    obtain rfl := Value.ref.inj B.eq
    refine append_K R₂.F R₂.N (R₂.updO _ B.mu) (fun h' F' N' => ?_) (by rw [sizeLine_eq, List.size_toArray, B.vs.length]; have := q.1; omega)
    refine hq _ _ _ _ _ (R₂.put (tk := s₂.toks) B.mu F' N' (.inl rfl) ?_) (le.trans (le₂.trans (le_upd B.mu))) .none q.2
    rw [List.push_toArray]
    exact .list ((B.vs.append (.cons V₃ .nil)).mono R₂.cm (le_upd B.mu))
theorem ev_get : SE c C n ev (.Call (.Attribute o "get" apos) es [] pos) (.meth x .get xs) := by
  intro fb k' ρ W σ s ex Q Qc Ec f eo R L E hq hx
  cases k' with
  | zero => exact E.elim
  | succ k' =>
    refine MethodCall_ (h _ _ _ _ _ _ _ _ _ _ f eo R L E (fun v av σ' s' W' R' le V E' => ?_) hx) (meth_eq hn hp (plain_form h1 hl))
    obtain ⟨i, V1, E1⟩ := V.objB (E'.1 : objB _ av)
    obtain ⟨l, e1, _⟩ := dictB_inv E1
    obtain ⟨D, od, kvs, A⟩ := dct_at R' V1 e1
    obtain rfl := A.eq
    refine kdg_method R'.N A.mem A.is ?_
    refine snd_callWith (P := fun _ => True) f eo R' (LocF.le L R.cm le) h1 E'.2 (fun h _ => ⟨.machine, .inr (.inl rfl), .now⟩) (fun vs avs σ₂ s₂ W₂ R₂ le₂ V₂ q => ⟨trivial, ?_⟩) (hx.le le)
    obtain ⟨u, rfl, q⟩ := oneB_inv q
    obtain ⟨w, rfl, V₃⟩ := V₂.one_inv
    obtain ⟨key, t, rfl, q⟩ := V₃.strB q
    obtain ⟨i, V4, q⟩ := (V.mono R'.cm le₂).objB q
    obtain ⟨es', e2, q⟩ := dictB_inv q
    obtain ⟨D', od', kvs', B⟩ := dct_at R₂ V4 e2
    obtain rfl := Value.ref.inj B.eq
    have hl := B.vs.look key
    have hns := f.notSys R₂ B.mu (dict_cls B.is)
    cases hh : look key es' with
    | none =>
      rw [hh] at hl q
      exact kdg_get1 R₂.N B.mem B.is hns (strs_is _ _) none hl (hq _ _ _ _ _ (R₂.tok _) (le.trans le₂) .none q)
    | some a =>
      rw [hh] at hl q
      obtain ⟨v, g1, g2⟩ := hl
      exact kdg_get1 R₂.N B.mem B.is hns (strs_is _ _) (some v) g1 (hq _ _ _ _ _ (R₂.tok _) (le.trans le₂) g2 q)
theorem ev_find : SE c C n ev (.Call (.Attribute o "find" apos) es [] pos) (.meth x .find xs) := by
  intro fb k' ρ W σ s ex Q Qc Ec f eo R L E hq hx
  cases k' with
  | zero => exact E.elim
  | succ k' =>
    refine MethodCall_ (h _ _ _ _ _ _ _ _ _ _ f eo R L E (fun v av σ' s' W' R' le V E' => ?_) hx) (meth_eq hn hp (plain_form h1 hl))
    obtain ⟨i, t, rfl, _⟩ := V.strB (E'.1 : strB _ av)
    refine GM.find ?_
    refine snd_callWith (P := fun _ => True) f eo R' (LocF.le L R.cm le) h1 E'.2 (fun h _ => ⟨.machine, .inr (.inl rfl), .now⟩) (fun vs avs σ₂ s₂ W₂ R₂ le₂ V₂ q => ⟨trivial, ?_⟩) (hx.le le)
    obtain ⟨u, rfl, q⟩ := oneB_inv q
    obtain ⟨w, rfl, V₃⟩ := V₂.one_inv
    obtain ⟨key, t', rfl, q⟩ := V₃.strB q
    obtain ⟨i', t'', e, q⟩ := V.strB q
    obtain ⟨e1, _⟩ := Value.str.inj e
    rw [e1]
    exact SC.find (hq _ _ _ _ _ (R₂.tok _) (le.trans le₂) .int q)
theorem ev_join : SE c C n ev (.Call (.Attribute o "join" apos) es [] pos) (.meth x .join xs) := by
  intro fb k' ρ W σ s ex Q Qc Ec f eo R L E hq hx
  cases k' with
  | zero => exact E.elim
  | succ k' =>
    refine MethodCall_ (h _ _ _ _ _ _ _ _ _ _ f eo R L E (fun v av σ' s' W' R' le V E' => ?_) hx) (meth_eq hn hp (plain_form h1 hl))
    obtain ⟨i, t, rfl, hi⟩ := V.strB (E'.1 : strB _ av)
    cases i with
    | cons _ _ => exact hi.elim
    | nil =>
      refine GM.join ?_
      refine snd_callWith (P := fun _ => True) f eo R' (LocF.le L R.cm le) h1 E'.2 (fun h _ => ⟨.machine, .inr (.inl rfl), .now⟩) (fun vs avs σ₂ s₂ W₂ R₂ le₂ V₂ q => ⟨trivial, ?_⟩) (hx.le le)
      obtain ⟨u, rfl, q⟩ := oneB_inv q
      obtain ⟨w, rfl, V₃⟩ := V₂.one_inv
      obtain ⟨l, a, ws, rfl, g1, g2, q⟩ := V₃.lstB q
      obtain ⟨i', t'', e, q⟩ := V.strB q
      have q : joinB σ₂ Q (isStrs l) := by cases i' with
        | nil => exact q
        | cons _ _ => exact q.elim
      cases hs : isStrs l with
      | none => rw [hs] at q; exact q.elim
      | some ss =>
        rw [hs] at q
        obtain ⟨ps, e1, e2⟩ := isStrs_join hs g2
        refine SC.join (texts := ss.map fun x => ⟨x.toArray⟩) (l := ps) (by rw [← e1]; exact R₂.isList f.stays g1) e2 ?_ fun t' k => ?_
        · unfold JoinOk
          rw [join_sum ss 0]
          have h3 := sizeLine_eq
          have h4 := q.1
          generalize ss.flatten.length = z at h4 ⊢
          unfold Builtin.Str.tooLong
          simp
          omega
        · have e3 := eq_of_beq (join_plain_closes (⟨#[]⟩ : Str) (ss.map fun x => ⟨x.toArray⟩))
          rw [join_flat] at e3
          have e4 : Txt.join ⟨([] : List Nat).toArray⟩ (ss.map fun x => (⟨x.toArray⟩ : Str)) = ⟨ss.flatten.toArray⟩ := e3
          rw [e4]
          exact hq _ _ _ _ _ (R₂.tok _) (le.trans le₂) .str q.2
end
theorem ev_meth {o : Expr} {es : List Expr} {x : X} {xs : List X} {nm : Str} {apos pos : Pos} (co : CxOk c) (sc : SndC c C n) (h : SE c C n ev o x) (h1 : SEL c C n ev es xs) (hn : notCall o = true) (hp : apos.endLine = pos.line) (hl : es.length < 20) :
    SE c C n ev (.Call (.Attribute o nm apos) es [] pos) (.meth x (.user (cp nm)) xs) := by
  intro fb k' ρ W σ s ex Q Qc Ec f eo R L E hq hx
  cases k' with
  | zero => exact E.elim
  | succ k' =>
    refine MethodCall_ (h _ _ _ _ _ _ _ _ _ _ f eo R L E (fun v av σ' s' W' R' le V E' => ?_) hx) (meth_eq hn hp (plain_form h1 hl))
    obtain ⟨i, V', E'⟩ := V.objB E'
    obtain ⟨K, d, e1, E'⟩ := instB_inv E'
    obtain ⟨fs, e2, E'⟩ := attsB_inv E'
    obtain ⟨fa, hm, hnone, E'⟩ := osB_inv E'
    obtain ⟨y, dx, ds, k, rfl, b1, hA, I, hmm⟩ := inst_at R' V' e1 e2
    obtain ⟨t1, t2, t3, t4⟩ := co.mt _ _ _ hm
    obtain ⟨u1, u2, _⟩ := co.own _ t1
    have en : (⟨(cp nm).toArray⟩ : Str) = nm := by simp [cp]
    rw [en] at t2
    have hl0 : getL nm ds = some none := by
      have := hA.look (cp nm)
      cases hh : look (cp nm) fs with
      | none => rw [hh, en] at this; exact this
      | some a => rw [hh] at hnone; cases hnone
    refine method_inst R'.F f.X I u1 t2 t3 hl0 ?_
    refine snd_callWith (P := fun h => c.K.In h ∧ keepIn c.K (.ref fa) = true) f eo R' (LocF.le L R.cm le) h1 E' (fun h hp => keeps_K hp.2 h hp.1) (fun vs avs σ'' s'' W'' R'' le' Vs q => ?_) (hx.le le)
    exact ⟨⟨f.X.keeps R''.F.keep, t4⟩, sc.call _ _ _ _ _ _ _ _ _ _ _ _ f R'' .top (.cons (V.mono R'.cm le') Vs) q (hq.le (le.trans le')) (hx.le (le.trans le'))⟩
end
end
section
open PySem PySem.W PyProof.Rows PySem.Calls
section
variable {c : Cx} {C : Ctr} {n : Nat} {ev : Env}

/-- a display's rows -/
inductive DR (c : Cx) (C : Ctr) (n : Nat) (ev : Env) : List (Option Expr) → List Expr → List (List Nat × X) → Prop
  | nil : DR c C n ev [] [] []
  | cons {k : Str} {kk pos e x ks vs xs} : SE c C n ev e x → DR c C n ev ks vs xs → DR c C n ev (some (.Constant (.str k) kk pos) :: ks) (e :: vs) ((cp k, x) :: xs)
theorem DR.len {ks vs xs} (h : DR c C n ev ks vs xs) : ks.length = vs.length ∧ ks.all (·.isSome) = true ∧ ks.length = xs.length := by
  induction h with
  | nil => exact ⟨rfl, rfl, rfl⟩
  | cons _ _ ih => exact ⟨congrArg Nat.succ ih.1, ih.2.1, congrArg Nat.succ ih.2.2⟩

theorem snd_pairs {ex : St → Prop} {k : Nat} {pos : Pos} {ks : List (Option Expr)} {vs : List Expr} {xs : List (List Nat × X)} {fb : FB} {ρ : Loc} {Ec} (h : DR c C n ev ks vs xs) (f : FB.ok fb c n) (eo : EvOk fb ev) : ∀ {W : GW} {σ : St} {s : Shared} {Q : List AV → St → Prop} {Qc : List (Value × Value) → Shared → Prop}, RelF c fb W σ s → LocF c fb ev W ρ →
    seqL (fun p => evE C ex k ρ p.2) xs σ Q → (∀ vs avs kvs σ' s' W', RelF c fb W' σ' s' → W.Le W' → ER c.CR W' ((xs.map (·.1)).zip avs) kvs → Carries (PySem.strKind c.prog c.w) vs kvs → kvs.map (·.1) = xs.map (fun p => (⟨p.1.toArray⟩ : Str)) → Q avs σ' → Qc vs s') → PX c fb W ex Ec →
    wpAny (model c.prog c.w) fb.A (evalPairs (pairTrees ks vs ev pos)) Qc Ec s := by
  induction h with
  | nil => intro W σ s Q Qc R L E hq hx; exact pairTrees_nil_walk (hq _ _ _ _ _ _ R (.refl _) .nil trivial rfl E)
  | @cons kn kk kp e x ks vs xs h r ih =>
    intro W σ s Q Qc R L E hq hx
    refine pairTrees_cons_walk (wpAny_Constant_str ?_)
    refine h _ _ _ _ _ _ _ _ _ _ f eo (R.tok (s.toks + 1)) L E (fun v av σ' s' W' R' le V E' => ?_) hx
    refine ih R' (LocF.le L R.cm le) E' (fun vs avs kvs σ'' s'' W'' R'' le' er ca kn' q => ?_) (hx.le le)
    have en : (⟨(cp kn).toArray⟩ : Str) = kn := by simp [cp]
    refine hq _ (av :: avs) ((⟨(cp kn).toArray⟩, v) :: kvs) σ'' s'' W'' R'' (le.trans le') (.cons (V.mono R'.cm le') er) ⟨?_, rfl, ca⟩ (by rw [List.map_cons, List.map_cons, kn']) q
    rw [en]
    exact beq_self_eq_true kn

theorem stored_new {kvs : List (Str × Value)} {k : Str} {v : Value} (h : k ∉ kvs.map (·.1)) : stored kvs k v = kvs ++ [(k, v)] := by
  unfold stored
  rw [if_neg]
  intro q
  rw [List.any_eq_true] at q
  obtain ⟨p, hp, e⟩ := q
  exact h (List.mem_map.mpr ⟨p, hp, of_decide_eq_true e⟩)
theorem merged_new : ∀ {more kvs : List (Str × Value)}, ((kvs ++ more).map (·.1)).Nodup → merged kvs more = kvs ++ more
  | [], kvs, _ => by simp [merged]
  | p :: r, kvs, h => by
    have h1 : p.1 ∉ kvs.map (·.1) := fun q => by
      rw [List.map_append, List.map_cons] at h
      exact (List.nodup_append.mp h).2.2 _ q _ (.head _) rfl
    have e : merged kvs (p :: r) = merged (stored kvs p.1 p.2) r := rfl
    rw [e, stored_new h1, merged_new (by simpa using h)]
    simp

theorem keys_nodup {xs : List (List Nat × X)} (h : (xs.map (·.1)).Nodup) : (xs.map (fun p => (⟨p.1.toArray⟩ : Str))).Nodup := by
  have : xs.map (fun p => (⟨p.1.toArray⟩ : Str)) = (xs.map (·.1)).map fun k => ⟨k.toArray⟩ := by rw [List.map_map]; rfl
  rw [this]
  exact List.Pairwise.map _ (fun a b hab e => hab (str_mk_inj e)) h

theorem ev_dict {ks : List (Option Expr)} {vs : List Expr} {xs : List (List Nat × X)} {pos} (h : DR c C n ev ks vs xs) (hn : (xs.map (·.1)).Nodup) (h0 : ks ≠ []) (hl : ks.length ≤ 15) : SE c C n ev (.Dict ks vs pos) (.dict xs) := by
  intro fb k' ρ W σ s ex Q Qc Ec f eo R L E hq hx
  cases k' with
  | zero => exact E.elim
  | succ k' =>
    obtain ⟨l1, l2, l3⟩ := h.len
    have N₁ := News.push R.F R.N { cls := .type "dict", data := .dict #[] }
    have m₁ := N₁ _ (.head _)
    refine Dict_made (knd := PySem.strKind c.prog c.w) R.F l2 l1 h0 hl fun F₁ => ?_
    have R₁ := R.tohid (tk := s.toks) F₁ N₁ R.fresh
    refine snd_pairs (fb := fb.hid (s.heap.objs.size, { cls := .type "dict", data := .dict #[] })) h (f.hid _) ⟨eo.k, eo.g, eo.b, eo.f⟩ R₁ (LocF.hid L) E (fun vs' avs kvs σ' s' W' R' le er ca kn q => ?_) fun e σ' s' W' Rx' le q => hx e σ' s' W' (Rx.unhid Rx') le q
    have hnd : (kvs.map (·.1)).Nodup := by rw [kn]; exact keys_nodup hn
    refine ⟨kvs, ca, ⟨_, #[], 0, R'.mem, ⟨rfl, rfl, rfl⟩, rfl, ?_, .nil, .nil⟩, fun h' hD hs => ?_⟩
    · show ∀ e ∈ (#[] : Array DictEntry), _
      intro e he; simp at he
    · have hm : merged [] kvs = kvs := merged_new (kvs := []) (by simpa using hnd)
      rw [hm] at hD
      obtain ⟨o', g1, g2⟩ := Heap.dictOf_iff.mp hD
      have R₂ := RelF.rehid (tk := s'.toks + vs'.length) R' hs g1
      refine new_dict (s := { s' with heap := h', toks := s'.toks + vs'.length }) (tk := s'.toks + vs'.length) f R₂.unhid R₂.F R₂.list R₂.toLg.notIn (R.notSys f.lim) er g2 (hq.le le) q

theorem empty_is {prog w} : (emptyDict).IsDictOf (PySem.strKind prog w) [] := by
  refine ⟨#[], 0, ⟨rfl, rfl, rfl⟩, rfl, ?_, .nil, .nil⟩
  show ∀ e ∈ (#[] : Array DictEntry), _
  intro e he; simp at he
theorem ev_dict0 {pos} : SE c C n ev (.Dict [] [] pos) (.dict []) := by
  intro fb k' ρ W σ s ex Q Qc Ec f eo R L E hq hx
  cases k' with
  | zero => exact E.elim
  | succ k' =>
    exact wpAny_Dict_empty (new_dict (tk := s.toks) f R (R.F.push emptyDict) (News.push R.F R.N emptyDict) R.fresh (R.notSys f.lim) .nil empty_is hq E)
end
end
section
open PySem PySem.W PyProof.Rows PySem.Calls
noncomputable abbrev SP := Sem Value × Sem Value
/-- a display's rows are gathered -/
theorem fold_run {body : Option (Sem Value) × Sem Value → Option Addr × List SP → Sem (ForInStep (Option Addr × List SP))} (h : ∀ k v main run, ¬ ((run ++ [(k, v)]).length == 17) = true → body (some k, v) (main, run) = pure (.yield (main, run ++ [(k, v)]))) :
    ∀ (l : List SP) main run rest, run.length + l.length ≤ 16 → forIn (l.map (fun p => (some p.1, p.2)) ++ rest) (main, run) body = forIn rest (main, run ++ l) body
  | [], main, run, rest, _ => by rw [List.append_nil]; rfl
  | (k, v) :: l, main, run, rest, hl => by
    have hl' : (run ++ [(k, v)]).length + l.length ≤ 16 := by rw [List.length_append, Nat.add_assoc, Nat.add_comm [(k, v)].length]; exact hl
    have e : ¬ ((run ++ [(k, v)]).length == 17) = true := fun q => by rw [eq_of_beq q] at hl'; exact absurd (Nat.le_trans (Nat.le_add_right 17 _) hl') (by decide)
    rw [List.map_cons, List.cons_append, List.forIn_cons, h _ _ _ _ e, pure_bind]
    refine (fold_run h l main (run ++ [(k, v)]) rest hl').trans ?_
    rw [List.append_assoc]; rfl
theorem disp_gen {body : Option (Sem Value) × Sem Value → Option Addr × List SP → Sem (ForInStep (Option Addr × List SP))} {fin : Option Addr × List SP → Sem Value} {g : Addr → List SP → Sem Value} {l1 l2 : List SP} {x : SP}
    (h : ∀ k v main run, ¬ ((run ++ [(k, v)]).length == 17) = true → body (some k, v) (main, run) = pure (.yield (main, run ++ [(k, v)])))
    (h17 : ∀ k v run, ((run ++ [(k, v)]).length == 17) = true → (run ++ [(k, v)]).isEmpty = false → body (some k, v) (none, run) = (subDict (run ++ [(k, v)]) >>= fun d => pure (.yield (some d, []))))
    (hf : ∀ d run, run.isEmpty = false → fin (some d, run) = g d run) (h1 : l1.length = 16) (h2 : l2.length ≤ 16) (h3 : l2.isEmpty = false) :
    (forIn ((l1 ++ x :: l2).map fun p => (some p.1, p.2)) (none, []) body >>= fin) = (subDict (l1 ++ [x]) >>= fun d => g d l2) := by
  rw [List.map_append, List.map_cons, fold_run h l1 none [] _ (by rw [h1]; decide), List.nil_append, List.forIn_cons, h17 _ _ _ (by rw [List.length_append, h1]; rfl) (by cases l1 <;> rfl), bind_assoc, bind_assoc]
  congr 1
  funext d
  rw [pure_bind]
  dsimp only
  rw [← List.append_nil (l2.map _), fold_run h l2 (some d) [] [] (by rw [List.length_nil, Nat.zero_add]; exact h2), List.forIn_nil, pure_bind, List.nil_append, hf _ _ h3]
theorem disp_two {l1 l2 : List SP} {x : SP} (h1 : l1.length = 16) (h2 : l2.length ≤ 16) (h3 : l2.isEmpty = false) : dictDisplay ((l1 ++ x :: l2).map fun p => (some p.1, p.2)) = (do
      let d ← subDict (l1 ++ [x])
      let sub ← holding [.ref d] (subDict l2)
      (holding [.ref d, .ref sub] (mergeMapping d (.ref sub) false)).onRaise fun x => do let _ ← holding [.ref d, x] (runValue (.builtin "proto.let_go" {}))
      pure (.ref d)) := by
  refine disp_gen (g := fun d l => do
      let sub ← holding [.ref d] (subDict l)
      (holding [.ref d, .ref sub] (mergeMapping d (.ref sub) false)).onRaise fun x => do let _ ← holding [.ref d, x] (runValue (.builtin "proto.let_go" {}))
      pure (.ref d)) (fun k v main run e => if_neg e) (fun k v run e e' => (if_pos e).trans ?_) (fun d run e => ?_) h1 h2 h3
  · refine (congrArg (· >>= _) (if_neg (by rw [e']; decide))).trans ?_
    exact bind_assoc _ _ _
  · refine (congrArg (· >>= _) (if_neg (by rw [e]; decide))).trans ?_
    refine (bind_assoc _ _ _).trans ?_
    congr 1
    funext sub
    refine (bind_assoc _ _ _).trans ?_
    rfl
theorem disp21 {l : List SP} (h : l.length = 21) : dictDisplay (l.map fun p => (some p.1, p.2)) = (do
      let d ← subDict (l.take 17)
      let sub ← holding [.ref d] (subDict (l.drop 17))
      (holding [.ref d, .ref sub] (mergeMapping d (.ref sub) false)).onRaise fun x => do let _ ← holding [.ref d, x] (runValue (.builtin "proto.let_go" {}))
      pure (.ref d)) := by
  have h16 : 16 < l.length := by rw [h]; decide
  have e1 : l.take 17 = l.take 16 ++ [l[16]] := List.take_succ_eq_append_getElem h16
  have e2 : l = l.take 16 ++ l[16] :: l.drop 17 := by rw [← List.drop_eq_getElem_cons h16, List.take_append_drop]
  rw [e1]
  conv => lhs; rw [e2]
  have hd : (l.drop 17).length = 4 := by rw [List.length_drop, h]
  exact disp_two (by rw [List.length_take, h]; rfl) (by rw [hd]; decide) (by rw [List.isEmpty_eq_false_iff]; intro q; rw [q] at hd; cases hd)

section
variable {prog : Program} {w : World} {A : Around} {E : Value → Shared → Prop} {s : Shared}
theorem put_new {d : Addr} {kvs : List (Str × Value)} {k : Str} {key v : Value} {Q : Unit → Shared → Prop} (hkey : (PySem.strKind prog w).is k key = true) (hm : s.heap.DictOf (PySem.strKind prog w) d kvs) (hnot : k ∉ kvs.map (·.1)) (hsz : kvs.length ≤ 1000)
    (hQ : ∀ h', h'.DictOf (PySem.strKind prog w) d (kvs ++ [(k, v)]) → Heap.SameBut d s.heap h' → Q () { s with heap := h' }) : wpAny (model prog w) A (dictPut d ((PySem.strKind prog w).hash k) key v) Q E s := by
  obtain ⟨o, es, ep, ho, hc, hd, hk, hp, hn⟩ := hm
  have hes : es.size ≤ sizeLine := by
    have e1 := hp.length
    have e2 : es.toList.length = es.size := by simp
    have := sizeLine_eq
    omega
  unfold dictPut
  refine wpAny_bind (wpAny_dictFind_of hkey ho hd hk ?_)
  have hidx : (es.findIdx? fun e => (PySem.strKind prog w).is k e.key) = kvs.findIdx? fun kv => decide (kv.1 = k) := by
    rw [← hp.findIdx k]; obtain ⟨l⟩ := es; simp
  have hi : (kvs.findIdx? fun kv => decide (kv.1 = k)) = none := by
    rw [List.findIdx?_eq_none_iff]
    intro p hp'
    exact decide_eq_false fun e => hnot (List.mem_map.mpr ⟨p, hp', e⟩)
  rw [hidx, hi]
  refine wpAny_updateDictKeys (hz := hes) ho hd (hQ _ ⟨_, _, ep + 1, Heap.get?_update_self _ ho (Obj.isFreed_of_dict (Obj.data_mapDictKeys hd _)), hc.mapDictKeys _, Obj.data_mapDictKeys hd _, hk.push hkey _, ?_, ?_⟩ (Heap.SameBut.update ..))
  · have := hp.append hkey ((PySem.strKind prog w).hash k) v
    obtain ⟨l⟩ := es
    simpa using this
  · rw [List.map_append, List.nodup_append]
    refine ⟨hn, by simp, fun a ha b hb e => ?_⟩
    simp at hb
    subst hb
    subst e
    exact hnot ha

theorem Pairs.at {es : List DictEntry} {kvs : List (Str × Value)} (h : Pairs (PySem.strKind prog w) es kvs) : ∀ {i : Nat} {kv}, kvs[i]? = some kv → ∃ e, es[i]? = some e ∧ (PySem.strKind prog w).is kv.1 e.key = true ∧ e.val = kv.2 := by
  induction h with
  | nil => intro i kv h; simp at h
  | cons h1 h2 _ ih =>
    intro i kv h
    cases i with
    | zero => simp at h; subst h; exact ⟨_, rfl, h1, h2⟩
    | succ i => simp at h; simpa using ih h

theorem forIn_turns {M : Model} {f : Nat → PUnit → Sem (ForInStep PUnit)} (I : Nat → Shared → Prop) (N : Nat) (turn : ∀ i s, i < N → I i s → wpAny M A (f i PUnit.unit) (fun r s' => r = .yield PUnit.unit ∧ I (i + 1) s') E s) : ∀ (m i : Nat) (s : Shared), i + m = N → I i s → wpAny M A (forIn (List.range' i m) PUnit.unit f) (fun _ s' => I N s') E s
  | 0, i, s, h, hI => by
    have : i = N := by omega
    subst this
    exact wpAny_pure hI
  | m + 1, i, s, h, hI => by
    rw [List.range'_succ, List.forIn_cons]
    refine wpAny_bind (wpAny_mono (turn i s (by omega) hI) (fun r s' hr => ?_) fun _ _ e => e)
    obtain ⟨rfl, hI'⟩ := hr
    exact forIn_turns I N turn m (i + 1) s' (by omega) hI'

theorem merge_new {D S : Addr} {kvs more : List (Str × Value)} {Q : Unit → Shared → Prop} (hDS : S ≠ D) (hS : (S == sysModules) = false) (hD : s.heap.DictOf (PySem.strKind prog w) D kvs) (hSd : s.heap.DictOf (PySem.strKind prog w) S more) (nd : ((kvs ++ more).map (·.1)).Nodup) (h0 : kvs ≠ []) (hsz : kvs.length + more.length ≤ 1000)
    (hQ : ∀ h', h'.DictOf (PySem.strKind prog w) D (kvs ++ more) → Heap.SameBut D s.heap h' → Q () { s with heap := h' }) : wpAny (model prog w) A (mergeMapping D (.ref S) false) Q E s := by
  obtain ⟨oS, es, ep, hoS, hcS, hdS, hkS, hpS, hnS⟩ := id hSd
  obtain ⟨oD, esD, epD, hoD, hcD, hdD, hkD, hpD, hnD⟩ := id hD
  have hlen : es.size = more.length := by have := hpS.length; simpa using this
  unfold mergeMapping
  refine wpAny_bind (wpAny_isInstance (b := true) hSd.typeIs (by rw [isSubtype_type]; kernel_rfl) ?_)
  dsimp only
  rw [if_pos rfl]
  refine wpAny_bind (wpAny_specialOf hSd.typeIs F.slot_dict_iter.lookup ?_)
  refine wpAny_bind (wpAny_pure ?_)
  rw [show ((some (Value.builtin "dict.__iter__") : Option Value) == some (.builtin "dict.__iter__")) = true by simp]
  dsimp only
  rw [if_neg (by rw [hS]; decide)]
  refine wpAny_bind (wpAny_dictEntries hoD hdD ?_)
  have hne : ¬ esD.isEmpty = true := by
    intro h
    have e1 := hpD.length
    have : esD.size = 0 := by simpa using h
    have : kvs.length = 0 := by simp at e1; omega
    exact h0 (List.length_eq_zero_iff.mp this)
  rw [if_neg hne]
  refine wpAny_bind (wpAny_dictEntries hoS hdS ?_)
  refine wpAny_bind (wpAny_dictEpoch hoS hdS ?_)
  rw [List.range_eq_range']
  refine wpAny_bind (wpAny_mono (forIn_turns (fun i s' => ∃ h', s' = { s with heap := h' } ∧ h'.DictOf (PySem.strKind prog w) D (kvs ++ more.take i) ∧ Heap.SameBut D s.heap h') es.size ?_ es.size 0 s (by omega) ⟨s.heap, rfl, by simpa using hD, .refl _ _⟩) (fun _ s' h => ?_) fun _ _ e => e)
  · rintro i s' hi ⟨h', rfl, hD', hs'⟩
    have hoS' : h'.get? S = some oS := by rw [hs'.2 S hDS]; exact hoS
    obtain ⟨kv, hkv⟩ : ∃ kv, more[i]? = some kv := ⟨_, List.getElem?_eq_getElem (by omega)⟩
    obtain ⟨e, he, hk, hv⟩ := Pairs.at hpS hkv
    have he' : es[i]? = some e := by simpa using he
    refine wpAny_bind (wpAny_dictEntries hoS' hdS ?_)
    rw [he']
    dsimp only
    rw [if_neg (by decide)]
    have hmem : e ∈ es := Array.mem_of_getElem? he'
    obtain ⟨k', hk1, hk2⟩ := hkS e hmem
    have hkk : k' = kv.1 := by
      obtain ⟨t1, e1⟩ := Value.isStrOf_shape hk1
      obtain ⟨t2, e2⟩ := Value.isStrOf_shape hk
      rw [e1] at e2
      cases e2
      rfl
    subst hkk
    have htk : more.take (i + 1) = more.take i ++ [kv] := by rw [List.take_add_one, hkv]; rfl
    have hnot : kv.1 ∉ (kvs ++ more.take i).map (·.1) := by
      have : ((kvs ++ more.take (i + 1)).map (·.1)).Nodup := List.Nodup.sublist (List.Sublist.map _ (List.Sublist.append (List.Sublist.refl _) (List.take_sublist _ _))) nd
      rw [htk, ← List.append_assoc, List.map_append, List.nodup_append] at this
      exact fun hm => this.2.2 _ hm _ (by simp) rfl
    refine wpAny_bind (wpAny_holding ?_)
    rw [hk2]
    refine put_new (s := { s with heap := h' }) hk hD' hnot (by simp; omega) fun h'' hD'' hs'' => ?_
    have hoS'' : h''.get? S = some oS := by rw [hs''.2 S hDS]; exact hoS'
    refine wpAny_bind (wpAny_dictEpoch hoS'' hdS ?_)
    rw [if_neg (by simp)]
    refine wpAny_pure ⟨rfl, h'', rfl, ?_, hs'.trans hs''⟩
    rw [htk, ← List.append_assoc]
    have : (kv.1, e.val) = kv := by rw [hv]
    rw [this] at hD''
    exact hD''
  · obtain ⟨h', rfl, hD', hs'⟩ := h
    rw [hlen, List.take_length] at hD'
    exact wpAny_pure (hQ h' hD' hs')
end

section
variable {c : Cx} {C : Ctr} {n : Nat} {ev : Env}
theorem DR.split (k : Nat) {ks vs xs} (h : DR c C n ev ks vs xs) : ∀ {j : Nat}, DR c C n ev (ks.take j) (vs.take j) (xs.take j) ∧ DR c C n ev (ks.drop j) (vs.drop j) (xs.drop j) := by
  induction h with
  | nil => intro j; cases j <;> exact ⟨.nil, .nil⟩
  | cons h r ih =>
    intro j
    cases j with
    | zero => exact ⟨.nil, .cons h r⟩
    | succ j => exact ⟨.cons h (ih (j := j)).1, (ih (j := j)).2⟩
theorem trees_split {pos : Pos} {ks vs xs} (h : DR c C n ev ks vs xs) : ∀ {j : Nat}, (pairTrees ks vs ev pos).take j = pairTrees (ks.take j) (vs.take j) ev pos ∧ (pairTrees ks vs ev pos).drop j = pairTrees (ks.drop j) (vs.drop j) ev pos := by
  induction h with
  | nil => intro j; cases j <;> exact ⟨rfl, rfl⟩
  | cons h r ih =>
    intro j
    cases j with
    | zero => exact ⟨rfl, rfl⟩
    | succ j => exact ⟨congrArg (_ :: ·) (ih (j := j)).1, (ih (j := j)).2⟩
theorem seqL_app {α : Type} {f : α → St → KE → Prop} : ∀ (a b : List α) (σ : St) (Q : List AV → St → Prop), seqL f (a ++ b) σ Q = seqL f a σ fun x σ' => seqL f b σ' fun y σ'' => Q (x ++ y) σ''
  | [], b, σ, Q => rfl
  | e :: a, b, σ, Q => by
    show f e σ (fun v σ' => seqL f (a ++ b) σ' fun vs σ'' => Q (v :: vs) σ'') = f e σ fun v σ' => seqL f a σ' fun x σ'' => seqL f b σ'' fun y σ₃ => Q (v :: x ++ y) σ₃
    congr 1
    funext v σ'
    exact seqL_app a b σ' fun vs σ'' => Q (v :: vs) σ''

theorem ER.app {CR W} {a b x y} (h : ER CR W a b) (h' : ER CR W x y) : ER CR W (a ++ x) (b ++ y) := by
  induction h with
  | nil => exact h'
  | cons V _ ih => exact .cons V ih

theorem snd_fill {ex : St → Prop} {k : Nat} {pos : Pos} {D : Addr} : ∀ {ks : List (Option Expr)} {vs : List Expr} {xs : List (List Nat × X)} {fb : FB} {ρ : Loc} {W : GW} {σ : St} {s : Shared} {od : Obj} {es0 : List (List Nat × AV)} {kvs0 : List (Str × Value)} {Q : List AV → St → Prop} {Qu : Unit → Shared → Prop} {Ec}, DR c C n ev ks vs xs → FB.ok fb c n → EvOk fb ev → RelF c (fb.hid (D, od)) W σ s → LocF c fb ev W ρ →
    ER c.CR W es0 kvs0 → od.IsDictOf (PySem.strKind c.prog c.w) kvs0 → (kvs0.map (·.1) ++ xs.map (fun p => (⟨p.1.toArray⟩ : Str))).Nodup → kvs0.length + xs.length ≤ 1000 →
    seqL (fun p => evE C ex k ρ p.2) xs σ Q → (∀ avs od' kvs σ' s' W', RelF c (fb.hid (D, od')) W' σ' s' → W.Le W' → ER c.CR W' (es0 ++ (xs.map (·.1)).zip avs) kvs → od'.IsDictOf (PySem.strKind c.prog c.w) kvs → kvs.map (·.1) = kvs0.map (·.1) ++ xs.map (fun p => (⟨p.1.toArray⟩ : Str)) → avs.length = xs.length → Q avs σ' → Qu () s') → PX c fb W ex Ec →
    wpAny (model c.prog c.w) fb.A (do
      forIn (pairTrees ks vs ev pos) PUnit.unit fun x __s => match x with
        | (k, v) => do
          let kv ← k
          let vv ← holding [kv] v
          holding [kv, vv] (dictSet D kv vv)
          pure (ForInStep.yield PUnit.unit)
      pure ()) Qu Ec s := by
  intro ks
  induction ks with
  | nil =>
    intro vs xs fb ρ W σ s od es0 kvs0 Q Qu Ec h f eo R L er hd nd hsz E hq hx
    cases h
    refine wpAny_bind (wpAny_pure (wpAny_pure (hq [] od kvs0 σ s W R (.refl _) (by simpa using er) hd (by simp) rfl E)))
  | cons ko ks ih =>
    intro vs xs fb ρ W σ s od es0 kvs0 Q Qu Ec h f eo R L er hd nd hsz E hq hx
    cases h with
    | @cons kn kk kp e x _ vs xs h1 r =>
    simp only [pairTrees]
    rw [List.forIn_cons]
    simp only [bind_assoc, pure_bind]
    refine wpAny_bind (wpAny_Constant_str ?_)
    refine wpAny_bind (wpAny_holding ?_)
    refine wpAny_bind (h1 (fb.hid (D, od)) _ _ _ _ _ _ _ _ _ (f.hid _) ⟨eo.k, eo.g, eo.b, eo.f⟩ (R.tok (s.toks + 1)) (LocF.hid L) E (fun v av σ' s' W' R' le V E' => ?_) fun e σ' s' W' Rx' le q => hx e σ' s' W' (Rx.unhid Rx') le q)
    refine wpAny_bind (wpAny_standAt (wpAny_pure ?_))
    have en : (⟨(cp kn).toArray⟩ : Str) = kn := by simp [cp]
    have hnot : kn ∉ kvs0.map (·.1) := fun hm => by
      rw [List.nodup_append] at nd
      exact nd.2.2 _ hm _ (List.mem_map.mpr ⟨_, .head _, en⟩) rfl
    refine wpAny_bind (wpAny_holding (wpAny_dictSet_pairs (knd := PySem.strKind c.prog c.w) (k := kn) (by show (kn == kn) = true; simp) (Heap.dictOf_iff.mpr ⟨od, R'.mem, hd⟩) (fun h' hD hs => ?_) (by rw [sizeLine_eq]; omega)))
    rw [stored_new hnot] at hD
    obtain ⟨o', g1, g2⟩ := Heap.dictOf_iff.mp hD
    have R₂ := RelF.rehid (tk := s'.toks + 1) R' hs g1
    refine ih (es0 := es0 ++ [(cp kn, av)]) (kvs0 := kvs0 ++ [(kn, v)]) r f eo R₂ (LocF.le L R.cm le) ?_ g2 ?_ ?_ E' (fun avs od' kvs σ₂ s₂ W₂ R₃ le₂ er₂ hd₂ hk₂ hl₂ q₂ => ?_) (hx.le le)
    · have : ER c.CR W' [(cp kn, av)] [(⟨(cp kn).toArray⟩, v)] := .cons V .nil
      rw [en] at this
      exact (er.mono R.cm le).app this
    · have e2 : (((kvs0 ++ [(kn, v)]).map (·.1)) ++ xs.map (fun p => (⟨p.1.toArray⟩ : Str))) = kvs0.map (·.1) ++ ((cp kn, x) :: xs).map (fun p => (⟨p.1.toArray⟩ : Str)) := by simp [en]
      rw [e2]; exact nd
    · simp at hsz ⊢; omega
    · refine hq (av :: avs) od' kvs σ₂ s₂ W₂ R₃ (le.trans le₂) (by simpa using er₂) hd₂ (by rw [hk₂]; simp [en]) (by simp [hl₂]) q₂

theorem snd_long {ex : St → Prop} {k : Nat} {pos : Pos} {ks : List (Option Expr)} {vs : List Expr} {xs : List (List Nat × X)} {fb : FB} {ρ : Loc} {W : GW} {σ : St} {s : Shared} {Q : List AV → St → Prop} {Qu : Addr → Shared → Prop} {Ec} (h : DR c C n ev ks vs xs) (f : FB.ok fb c n) (eo : EvOk fb ev) (R : RelF c fb W σ s) (L : LocF c fb ev W ρ)
    (nd : (xs.map (fun p => (⟨p.1.toArray⟩ : Str))).Nodup) (hl : 15 < (pairTrees ks vs ev pos).length) (hsz : xs.length ≤ 1000) (E : seqL (fun p => evE C ex k ρ p.2) xs σ Q)
    (hq : ∀ D avs od' kvs σ' s' W', (D == sysModules) = false → RelF c (fb.hid (D, od')) W' σ' s' → W.Le W' → ER c.CR W' ((xs.map (·.1)).zip avs) kvs → od'.IsDictOf (PySem.strKind c.prog c.w) kvs → kvs.map (·.1) = xs.map (fun p => (⟨p.1.toArray⟩ : Str)) → avs.length = xs.length → Q avs σ' → Qu D s') (hx : PX c fb W ex Ec) :
    wpAny (model c.prog c.w) fb.A (subDict (pairTrees ks vs ev pos)) Qu Ec s := by
  unfold subDict
  refine wpAny_bind (wpAny_alloc (wpAny_bind (wpAny_holding ?_)))
  rw [if_neg (by omega)]
  refine wpAny_bind (wpAny_rule ?_)
  have F₁ := R.F.push emptyDict
  have N₁ := News.push R.F R.N emptyDict
  have R₁ := RelF.tohid (p := (s.heap.objs.size, emptyDict)) R (tk := s.toks) F₁ N₁ R.fresh
  have hDsys : (s.heap.objs.size == sysModules) = false := R.notSys f.lim
  refine snd_fill (D := s.heap.objs.size) h f eo R₁ L .nil empty_is (by rw [List.map_nil, List.nil_append]; exact nd) (by simpa using hsz) E (fun avs od kvs σ' s' W' R' le er hd hk hal q => ?_) hx
  exact wpAny_pure (hq _ avs od kvs σ' s' W' hDsys R' le (by simpa using er) hd (by simpa using hk) hal q)

theorem ev_dict21 {ks : List (Option Expr)} {vs : List Expr} {xs : List (List Nat × X)} {pos} (h : DR c C n ev ks vs xs) (hn : (xs.map (·.1)).Nodup) (hl : ks.length = 21) : SE c C n ev (.Dict ks vs pos) (.dict xs) := by
  intro fb k' ρ W σ s ex Q Qc Ec f eo R L E hq hx
  cases k' with
  | zero => exact E.elim
  | succ k' =>
    obtain ⟨l1, l2, l3⟩ := h.len
    have hn' := keys_nodup hn
    obtain ⟨h17, h4⟩ := DR.split (C := C) 0 (j := 17) h
    obtain ⟨t17, t4⟩ := trees_split (pos := pos) (j := 17) h
    have hnp := pairTrees_length ks vs ev pos l2 l1
    rw [arm_eval_Dict, zip_pairTrees ks vs ev pos l2 l1, disp21 (by rw [hnp, hl]), t17, t4]
    refine wpAny_bind (wpAny_standAt ?_)
    have hx17 : (xs.take 17).length = 17 := by rw [List.length_take, ← l3, hl]; rfl
    have hx4 : (xs.drop 17).length = 4 := by rw [List.length_drop, ← l3, hl]
    have hsplit : xs = xs.take 17 ++ xs.drop 17 := (List.take_append_drop 17 xs).symm
    have E2 : seqL (fun p => evE C ex k' ρ p.2) (xs.take 17 ++ xs.drop 17) σ fun vs σ' => Q (.obj σ'.length) (σ' ++ [.dict ((xs.map (·.1)).zip vs)]) := by rw [← hsplit]; exact E
    rw [seqL_app] at E2
    have hp17 : (pairTrees (ks.take 17) (vs.take 17) ev pos).length = 17 := by rw [← t17, List.length_take, hnp, hl]; rfl
    have hp4 : (pairTrees (ks.drop 17) (vs.drop 17) ev pos).length = 4 := by rw [← t4, List.length_drop, hnp, hl]
    refine wpAny_bind (snd_long h17 f eo R L (List.Nodup.sublist (List.Sublist.map _ (List.take_sublist _ _)) hn') (by rw [hp17]; decide) (by rw [hx17]; decide) E2 (fun D avs od kvs σ' s' W' hDs R' le er hd hk hal E3 => ?_) hx)
    have F₂ := R'.F.push emptyDict
    have N₂ := News.push R'.F R'.N emptyDict
    have R₂ := RelF.tohid (fb := fb.hid (D, od)) (p := (s'.heap.objs.size, emptyDict)) R' (tk := s'.toks) F₂ N₂ R'.fresh
    have hSD : s'.heap.objs.size ≠ D := fun e => by
      have := R'.fresh (D, od) (hid_perm.mem_iff.mpr (.head _))
      exact this e.symm
    have hSs : (s'.heap.objs.size == sysModules) = false := Rel.notSys (m := fb.m) R' f.lim
    refine wpAny_bind (wpAny_holding (wpAny_subDict (knd := PySem.strKind c.prog c.w) (by rw [hp4]; decide) ?_))
    refine snd_pairs (fb := (fb.hid (D, od)).hid (s'.heap.objs.size, emptyDict)) h4 ((f.hid _).hid _) ⟨eo.k, eo.g, eo.b, eo.f⟩ R₂ (LocF.le L R.cm le) E3 (fun vs' avs' kvs' σ₃ s₃ W₃ R₃ le₃ er₃ ca kn q => ?_) fun e σ₃ s₃ W₃ Rx' le₃ q => hx e σ₃ s₃ W₃ (Rx.unhid (p := (D, od)) (Rx.unhid (fb := fb.hid (D, od)) Rx')) (le.trans le₃) q
    have hk4 : (kvs'.map (·.1)).Nodup := by rw [kn]; exact List.Nodup.sublist (List.Sublist.map _ (List.drop_sublist _ _)) hn'
    have RD : RelF c ((fb.hid (s'.heap.objs.size, emptyDict)).hid (D, od)) W₃ σ₃ s₃ := RelF.perm (fb := fb) (l := (s'.heap.objs.size, emptyDict) :: (D, od) :: fb.Hid) (List.Perm.swap _ _ _) R₃
    refine ⟨kvs', ca, Heap.dictOf_iff.mpr ⟨_, R₃.mem, empty_is⟩, fun h' hS hs => ?_⟩
    rw [merged_new (kvs := []) (by simpa using hk4), List.nil_append] at hS
    obtain ⟨oS, g1, g2⟩ := Heap.dictOf_iff.mp hS
    have R₄ := RelF.rehid (fb := fb.hid (D, od)) (tk := s₃.toks + vs'.length) R₃ hs g1
    have R₄' : RelF c ((fb.hid (s'.heap.objs.size, oS)).hid (D, od)) W₃ σ₃ { s₃ with heap := h', toks := s₃.toks + vs'.length } := RelF.perm (fb := fb) (l := (s'.heap.objs.size, oS) :: (D, od) :: fb.Hid) (List.Perm.swap _ _ _) R₄
    have hkl : kvs.length = 17 := by have := congrArg List.length hk; rw [List.length_map, List.length_map, hx17] at this; exact this
    have hkl' : kvs'.length = 4 := by have := congrArg List.length kn; rw [List.length_map, List.length_map, hx4] at this; exact this
    have hall : (kvs ++ kvs').map (·.1) = xs.map (fun p => (⟨p.1.toArray⟩ : Str)) := by
      rw [List.map_append, hk, kn, ← List.map_append, List.take_append_drop]
    refine wpAny_bind (wpAny_onRaise (wpAny_holding (merge_new (s := { s₃ with heap := h', toks := s₃.toks + vs'.length }) hSD hSs (Heap.dictOf_iff.mpr ⟨od, R₄'.mem, hd⟩) hS (by rw [hall]; exact hn') (fun e => by rw [e] at hkl; cases hkl) (by omega) fun h'' hD' hs' => ?_)))
    obtain ⟨oD, u1, u2⟩ := Heap.dictOf_iff.mp hD'
    have R₅ := RelF.rehid (fb := fb.hid (s'.heap.objs.size, oS)) (tk := s₃.toks + vs'.length) R₄' hs' u1
    have R₆ : RelF c (fb.hid (D, oD)) W₃ σ₃ _ := RelF.unhid (fb := fb.hid (D, oD)) (p := (s'.heap.objs.size, oS)) (RelF.perm (fb := fb) (l := (D, oD) :: (s'.heap.objs.size, oS) :: fb.Hid) (List.Perm.swap _ _ _) R₅)
    have erAll : ER c.CR W₃ ((xs.map (·.1)).zip (avs ++ avs')) (kvs ++ kvs') := by
      have e1 := (er.mono R.cm le₃).app er₃
      have : (xs.map (·.1)).zip (avs ++ avs') = ((xs.take 17).map (·.1)).zip avs ++ ((xs.drop 17).map (·.1)).zip avs' := by
        rw [← List.zip_append (by rw [List.length_map, hal]), ← List.map_append, List.take_append_drop]
      rw [this]; exact e1
    refine wpAny_pure ?_
    exact new_dict (s := { s₃ with heap := h'', toks := s₃.toks + vs'.length }) (tk := s₃.toks + vs'.length) f R₆.unhid R₆.F R₆.list R₆.toLg.notIn hDs erAll u2 (hq.le (le.trans le₃)) q
end
end
section
open PySem PySem.W PyProof.Rows PySem.Calls
section
variable {c : Cx} {C : Ctr} {n : Nat} {fb : FB} {W W' : GW} {σ : St} {s : Shared}

noncomputable def GW.cut (W : GW) (k : Nat) : GW := { W with Mu := W.Mu.take k }
theorem ad_cut (W : GW) (k : Nat) : (W.cut k).ad = W.ad.take k := by simp [GW.ad, GW.cut, List.map_take]
theorem VR.cut {CR : CloRel} {W : GW} {k : Nat} {a v} (h : VR CR W a v) : bndA k a = true → VR CR (W.cut k) a v :=
  VR.rec (CR := CR) (W := W) (motive_1 := fun a v _ => bndA k a = true → VR CR (W.cut k) a v) (motive_2 := fun l ws _ => bndL k l = true → VRs CR (W.cut k) l ws) (fun _ => .none) (fun _ => .bool) (fun _ => .int) (fun _ => .str) (fun _ => .con)
    (fun h hb => .obj (by rw [ad_cut, List.getElem?_take_of_lt (of_decide_eq_true hb)]; exact h)) (fun h _ r hb => .tup h (r hb)) (fun h _ r hb => .lst h (r hb)) (fun h _ r hb => .clo h (r hb)) (fun _ => .nil) (fun _ _ h r hb => .cons (h (Bool.and_eq_true _ _ |>.mp hb).1) (r (Bool.and_eq_true _ _ |>.mp hb).2)) h
theorem VRs.cutk {CR : CloRel} {W : GW} {k : Nat} {a v} (h : VRs CR W a v) : bndL k a = true → VRs CR (W.cut k) a v :=
  VRs.ind (P := fun l ws => bndL k l = true → VRs CR (W.cut k) l ws) (fun _ => .nil) (fun V _ ih hb => .cons (V.cut (Bool.and_eq_true _ _ |>.mp hb).1) (ih (Bool.and_eq_true _ _ |>.mp hb).2)) h
theorem ER.cut {CR : CloRel} {W : GW} {k : Nat} {a v} (h : ER CR W a v) : bndE k a = true → ER CR (W.cut k) a v := by
  induction h with
  | nil => exact fun _ => .nil
  | cons V _ ih => exact fun hb => .cons (V.cut (Bool.and_eq_true _ _ |>.mp hb).1) (ih (Bool.and_eq_true _ _ |>.mp hb).2)
theorem AR.cut {CR : CloRel} {W : GW} {k : Nat} {a v} (h : AR CR W a v) : bndE k a = true → AR CR (W.cut k) a v := by
  induction h with
  | nil => exact fun _ => .nil
  | cons V _ ih => exact fun hb => .cons (V.cut (Bool.and_eq_true _ _ |>.mp hb).1) (ih (Bool.and_eq_true _ _ |>.mp hb).2)
theorem OR.cut {CR : CloRel} {prog w} {W : GW} {k : Nat} {a o} (h : OR CR prog w W a o) (hb : bndO k a = true) : OR CR prog w (W.cut k) a o := by
  cases h with
  | list r => exact .list (r.cutk hb)
  | dict r d => exact .dict (r.cut hb) d
  | inst h =>
    exact .inst (by rw [ad_cut, List.getElem?_take_of_lt (of_decide_eq_true hb)]; exact h)
  | attrs r => exact .attrs (r.cut hb)
  | pin r d => exact .pin (r.cut hb) d
theorem HR.cut {CR : CloRel} {prog w} {W : GW} {k : Nat} {σ l} (h : HR CR prog w W σ l) : (∀ a ∈ σ, bndO k a = true) → HR CR prog w (W.cut k) σ l := by
  induction h with
  | nil => exact fun _ => .nil
  | cons V _ ih => exact fun hb => .cons (V.cut (hb _ (.head _))) (ih fun a ha => hb a (.tail _ ha))
theorem led_cut {W : GW} {k : Nat} {Hid : Led} : (led (W.cut k) Hid).Sublist (led W Hid) := List.Sublist.append (List.take_sublist _ _) (List.Sublist.refl _)
theorem Lg.cut {Hid : Led} {k : Nat} (R : Lg c Hid W σ) (hb : ∀ a ∈ σ.take k, bndO k a = true) : Lg c Hid (W.cut k) (σ.take k) :=
  ⟨List.Nodup.sublist (List.Sublist.map _ led_cut) R.nd, (R.hr.takes k).cut hb, R.g, R.cm, fun p hp => R.ns p (List.mem_of_mem_take hp)⟩
theorem RelF.cut {k : Nat} (R : RelF c fb W σ s) (hb : ∀ a ∈ σ.take k, bndO k a = true) : RelF c fb (W.cut k) (σ.take k) s :=
  ⟨R.toLg.cut hb, R.F, fun q hq => R.N q (led_cut.subset hq), R.sm⟩
theorem le_cut {k : Nat} (le : W.Le W') (hk : W.Mu.length ≤ k) : W.Le (W'.cut k) := by
  obtain ⟨x, e⟩ := le.mu
  refine ⟨le.g, ⟨x.take (k - W.Mu.length), ?_⟩, le.im⟩
  rw [ad_cut, e, List.take_append]
  have : W.ad.length = W.Mu.length := by simp [GW.ad]
  rw [this, List.take_of_length_le (by omega)]
theorem Way.sub {l l' : Led} {e : Addr} {h : Heap} (w : Way c fb l e h) (hl : ∀ q ∈ l', q ∈ l) : Way c fb l' e h := by
  cases w with
  | made h₁ F N x => exact .made h₁ F (fun q hq => N q (hl q hq)) x
  | fly g B a0 fl F x1 x2 x3 => exact .fly g B a0 fl F ⟨x1.1, fun q hq => x1.2 q (hl q hq)⟩ x2 x3

theorem bindL_cons {kf : Str → Option NameKind} {x : Str} {v : Value} {r : List (Str × Value)} {m : Str → Option Value} {y : Str} : bindL kf ((x, v) :: r) m y = bindL kf r (if kf x = some .local then fun y => if y = x then some v else m y else m) y := rfl
theorem bindC_cons {kf : Str → Option NameKind} {x : Str} {v : Value} {r : List (Str × Value)} {m : Str → Option Value} {y : Str} : bindC kf ((x, v) :: r) m y = bindC kf r (if kf x = some .local then m else fun y => if y = x then some v else m y) y := rfl
theorem bindL_other {kf : Str → Option NameKind} {y : Str} : ∀ {binds : List (Str × Value)} {m : Str → Option Value}, (∀ p ∈ binds, p.1 ≠ y) → bindL kf binds m y = m y
  | [], m, _ => rfl
  | (x, v) :: r, m, h => by
    rw [bindL_cons, bindL_other fun p hp => h p (.tail _ hp)]
    by_cases e : kf x = some .local
    · rw [if_pos e]; exact if_neg (Ne.symm (h (x, v) (.head _)))
    · rw [if_neg e]
theorem bindC_other {kf : Str → Option NameKind} {y : Str} : ∀ {binds : List (Str × Value)} {m : Str → Option Value}, (∀ p ∈ binds, p.1 ≠ y) → bindC kf binds m y = m y
  | [], m, _ => rfl
  | (x, v) :: r, m, h => by
    rw [bindC_cons, bindC_other fun p hp => h p (.tail _ hp)]
    by_cases e : kf x = some .local
    · rw [if_pos e]
    · rw [if_neg e]; exact if_neg (Ne.symm (h (x, v) (.head _)))
theorem bindL_at {kf : Str → Option NameKind} {y : Str} {v : Value} (hk : kf y = some .local) : ∀ {binds : List (Str × Value)} {m : Str → Option Value}, (binds.map (·.1)).Nodup → (y, v) ∈ binds → bindL kf binds m y = some v
  | (x, u) :: r, m, nd, h => by
    rw [List.map_cons, List.nodup_cons] at nd
    rw [bindL_cons]
    rcases List.mem_cons.mp h with e | h
    · cases e
      rw [bindL_other fun p hp q => nd.1 (List.mem_map.mpr ⟨p, hp, q⟩), if_pos hk, if_pos rfl]
    · exact bindL_at hk nd.2 h
theorem bindC_at {kf : Str → Option NameKind} {y : Str} {v : Value} (hk : ¬ kf y = some .local) : ∀ {binds : List (Str × Value)} {m : Str → Option Value}, (binds.map (·.1)).Nodup → (y, v) ∈ binds → bindC kf binds m y = some v
  | (x, u) :: r, m, nd, h => by
    rw [List.map_cons, List.nodup_cons] at nd
    rw [bindC_cons]
    rcases List.mem_cons.mp h with e | h
    · cases e
      rw [bindC_other fun p hp q => nd.1 (List.mem_map.mpr ⟨p, hp, q⟩), if_neg hk, if_pos rfl]
    · exact bindC_at hk nd.2 h
theorem cells_at {cm : Str → Option Value} {x : Str} {k : Addr} {cs : List (Str × Addr)} {cells : Led} (hc : CellsAre cm cs cells) : cs.lookup x = some k → ∃ o, (k, o) ∈ cells ∧ o.data = .cell (cm x) := by
  induction hc with
  | nil => exact fun h => nomatch h
  | cons hd _ ih =>
    intro h
    rw [List.lookup_cons] at h
    split at h
    · rename_i e
      obtain rfl := Option.some.inj h
      obtain rfl := eq_of_beq e
      exact ⟨_, .head _, hd⟩
    · obtain ⟨o, h1, h2⟩ := ih h
      exact ⟨o, .tail _ h1, h2⟩
theorem cells_fst {cm : Str → Option Value} {cs : List (Str × Addr)} {cells : Led} (hc : CellsAre cm cs cells) : cells.map (·.1) = cs.map (·.2) := by
  induction hc with
  | nil => rfl
  | cons _ _ ih => exact congrArg (_ :: ·) ih
theorem cellsFrom_ge : ∀ (names : List (Str × NameKind)) (k : Nat) (acc : List (Str × Addr)), (∀ p ∈ acc, p.2 < k) → (acc.map (·.2)).Nodup → (∀ p ∈ cellsFrom k names acc, p ∈ acc ∨ k ≤ p.2) ∧ ((cellsFrom k names acc).map (·.2)).Nodup
  | [], k, acc, h1, h2 => ⟨fun p hp => .inl hp, h2⟩
  | (nm, kd) :: r, k, acc, h1, h2 => by
    unfold cellsFrom
    split
    · obtain ⟨g1, g2⟩ := cellsFrom_ge r (k + 1) ((nm, k) :: acc) (fun p hp => by
        rcases List.mem_cons.mp hp with rfl | hp
        · exact Nat.lt_succ_self _
        · exact Nat.lt_succ_of_lt (h1 p hp)) (by
        rw [List.map_cons, List.nodup_cons]
        refine ⟨fun hm => ?_, h2⟩
        obtain ⟨p, hp, e⟩ := List.mem_map.mp hm
        have := h1 p hp
        rw [e] at this
        exact Nat.lt_irrefl _ this)
      refine ⟨fun p hp => ?_, g2⟩
      rcases g1 p hp with h | h
      · rcases List.mem_cons.mp h with rfl | h
        · exact .inr (Nat.le_refl _)
        · exact .inl h
      · exact .inr (Nat.le_of_succ_le h)
    · exact cellsFrom_ge r k acc h1 h2
end
end
section
open PySem PySem.W PyProof.Rows PySem.Calls
section
variable {c : Cx} {C : Ctr} {n : Nat} {fb : FB} {W W' : GW} {σ : St} {s : Shared}

/-- how a def stands -/
inductive FnHo (c : Cx) (f : Addr) (name qual : Str) (params : Arguments) (body : List Stmt) (scope : Scope) (cdv : Value) (ps : List Str) : Prop
  | mk (oc : Value) (od : Option Addr) (dV kV doc pm an ct osl) : c.K.lookup f = some ⟨oc, od, .func (fnOf name qual params body scope dV kV doc pm an cdv ct), osl⟩ → (∀ vs : List Value, vs.length = ps.length → ∀ s, BindsTo s (fnOf name qual params body scope dV kV doc pm an cdv ct) ⟨vs, []⟩ (ps.zip vs)) → FnHo c f name qual params body scope cdv ps
structure FnOk (c : Cx) (f : Addr) (name qual : Str) (params : Arguments) (body : List Stmt) (scope : Scope) (cdv : Value) (ps : List Str) : Prop where
  ho : FnHo c f name qual params body scope cdv ps
  hcd : codeIn c.K cdv qual = true
  hkind : ∀ x ∈ ps, scope.names.lookup x = some .local ∨ (scope.names.lookup x = some .cell ∧ ∀ n, ((cellsFrom n scope.names []).lookup x).isSome = true)
  hnd : ((cellsFrom 0 scope.names []).map (·.1)).Nodup
  hps : ps.Nodup
  hco : scope.isCoroutine = false
  hgen : scope.isGenerator = false
  hk : scope.kind = .function

theorem zip_fst : ∀ {ps : List Str} {vs : List Value}, vs.length = ps.length → (ps.zip vs).map (·.1) = ps
  | [], _, _ => by simp
  | _ :: _, [], h => by cases h
  | p :: ps, v :: vs, h => by rw [List.zip_cons_cons, List.map_cons, zip_fst (Nat.succ.inj h)]
theorem look_zip {CR W} {y : List Nat} {a : AV} {avs : List AV} {vs : List Value} (h : VRs CR W avs vs) : ∀ {ps : List Str}, avs.length = ps.length → look y ((ps.map cp).zip avs) = some a → ∃ p v, y = cp p ∧ p ∈ ps ∧ (p, v) ∈ ps.zip vs ∧ VR CR W a v :=
  VRs.ind (P := fun avs vs => ∀ {ps : List Str}, avs.length = ps.length → look y ((ps.map cp).zip avs) = some a → ∃ p v, y = cp p ∧ p ∈ ps ∧ (p, v) ∈ ps.zip vs ∧ VR CR W a v) (fun {ps} hl h => by
    cases ps with
    | nil => exact nomatch h
    | cons _ _ => cases hl) (fun {b v l ws} V _ ih {ps} hl h => by
    cases ps with
    | nil => cases hl
    | cons p ps =>
      rw [List.map_cons, List.zip_cons_cons] at h
      unfold look at h
      by_cases e : y = cp p
      · rw [if_pos e] at h
        obtain rfl := Option.some.inj h
        exact ⟨p, v, e, .head _, .head _, V⟩
      · rw [if_neg e] at h
        obtain ⟨q, u, h1, h2, h3, h4⟩ := ih (Nat.succ.inj hl) h
        exact ⟨q, u, h1, .tail _ h2, .tail _ h3, h4⟩) h

theorem snd_fnB {f : Addr} {name qual : Str} {params : Arguments} {body : List Stmt} {scope : Scope} {cdv : Value} {ps : List Str} {xs : List XS} {oc : Value} {od : Option Addr} {dV kV doc pm : Value} {an : Option Addr} {ct : Value} {osl : Array (Option Value)} {vs0 : List Value}
    (ho : c.K.lookup f = some ⟨oc, od, .func (fnOf name qual params body scope dV kV doc pm an cdv ct), osl⟩) (hcd : codeIn c.K cdv qual = true)
    (hkind : ∀ x ∈ ps, scope.names.lookup x = some .local ∨ (scope.names.lookup x = some .cell ∧ ∀ n, ((cellsFrom n scope.names []).lookup x).isSome = true))
    (hnd : ((cellsFrom 0 scope.names []).map (·.1)).Nodup) (hps : ps.Nodup) (hco : scope.isCoroutine = false) (hgen : scope.isGenerator = false) (hk : scope.kind = .function)
    (hb : ∀ L, SS c C n (envOfC qual scope L f cdv) body xs) {args : List AV} {vs : List Value} {ex : St → Prop} {Q : KE} {Qc Ec : Value → Shared → Prop} {n0 : Nat} (fo : FB.ok fb c n0) (hdp : fb.A.depth + 1 + 2 * n + 8 < recursionLimit) (hun : fb.A.units + 3 + 8 * n + 128 < cLine) (R : RelF c fb W σ s) (V : VRs c.CR W args vs)
    (hbind : BindsTo s (fnOf name qual params body scope dV kV doc pm an cdv ct) ⟨vs0, []⟩ (ps.zip vs))
    (E : runF C (ps.map cp) xs args σ ex Q) (hq : PQ c fb W Q Qc) (hx : PX c fb W ex Ec) : codeAny (model c.prog c.w) fb.A (.call (.ref f) ⟨vs0, []⟩) (RetP Qc Ec) s := by
  obtain ⟨hlen, k, E⟩ := E
  rw [List.length_map] at hlen
  have hvl : vs.length = ps.length := by rw [V.length, hlen]
  have hzf := zip_fst hvl
  refine (callX_cells (L := fb.L) (m := fb.m) fo.B R.F R.N fo.lim fo.fr fo.hf fo.hk ((fo.X.keeps R.F.keep) _ _ ho) rfl (codeRec_of (fo.X.keeps R.F.keep) hcd) (by have := fo.dp; omega) hbind (fun n' x hx' => ?_) hnd (fun g L' h₁ tk cells Fg F' N' CA BG st lt => ?_) hco hgen hk)
  · have : x.1 ∈ ps := by rw [← hzf]; exact List.mem_map_of_mem hx'
    rcases hkind _ this with h | ⟨h1, h2⟩
    · exact .inl h
    · exact .inr ⟨h1, h2 n'⟩
  let fb' : FB := { A₀ := fb.A, A := fb.A.deeper (envOfC qual scope L' f cdv), outer := fb.env :: fb.outer, env := envOfC qual scope L' f cdv, h₀ := g, L := L', m := bindL (envOfC qual scope L' f cdv).kindOf (ps.zip vs) fun _ => none, Hid := cells ++ fb.Hid, Cel := cells }
  have fo' : FB.ok fb' c n := {
    B := BG
    X := fo.X.keeps st
    T := fo.T.keeps st
    fr := Around.frames_deeper fo.fr
    hf := rfl
    hk := hk
    lo := rfl
    gl := rfl
    bi := rfl
    hd := fo.hd
    dp := hdp
    un := hun
    ce := fun p hp => List.mem_append_left _ hp }
  have cge := cellsFrom_ge scope.names (L' + 1) [] (by simp) (by simp)
  have cfs := cells_fst CA
  have hperm : (led W (cells ++ fb.Hid)).Perm (cells ++ led W fb.Hid) := by
    simp only [led]
    rw [List.append_assoc]
    exact List.perm_append_comm_assoc _ _ _
  have memq : ∀ {W' : GW}, ∀ q ∈ led W' fb.Hid, q ∈ led W' (cells ++ fb.Hid) := fun q hq' => by
    simp only [led, List.mem_append] at hq' ⊢
    rcases hq' with h | h | h
    · exact .inl h
    · exact .inr (.inl (.inr h))
    · exact .inr (.inr h)
  have R' : RelF c fb' W σ { s with heap := h₁, toks := tk } := {
    nd := by
      show ((led W (cells ++ fb.Hid)).map _).Nodup
      rw [(hperm.map _).nodup_iff, List.map_append, cfs, List.nodup_append]
      refine ⟨cge.2, R.nd, fun a ha b hb e => ?_⟩
      obtain ⟨p, hp, rfl⟩ := List.mem_map.mp ha
      obtain ⟨q, hq', rfl⟩ := List.mem_map.mp hb
      have h1 := (cge.1 p hp).resolve_left List.not_mem_nil
      have h2 := lt q hq'
      rw [← e] at h2
      exact Nat.lt_irrefl _ (Nat.lt_trans h2 (Nat.lt_of_succ_le h1))
    hr := R.hr
    g := R.g
    cm := R.cm
    ns := R.ns
    F := F'
    N := fun q hq' => N' q (hperm.mem_iff.mp hq')
    sm := ⟨R.sm.1, R.sm.2, R.sm.3⟩ }
  have L₀ : LocF c fb' fb'.env W ((ps.map cp).zip args) := fun y av hy => by
    obtain ⟨p, v, rfl, hp, hm, V'⟩ := look_zip V hlen hy
    have en : (⟨(cp p).toArray⟩ : Str) = p := by simp [cp]
    rw [en]
    refine ⟨v, V', ?_⟩
    have nd : ((ps.zip vs).map (·.1)).Nodup := by rw [hzf]; exact hps
    rcases hkind p hp with h | ⟨h1, h2⟩
    · exact .loc h rfl (bindL_at h nd hm)
    · obtain ⟨kk, hkk⟩ := Option.isSome_iff_exists.mp (h2 (L' + 1))
      obtain ⟨o, g1, g2⟩ := cells_at CA hkk
      have hnl : ¬ (envOfC qual scope L' f cdv).kindOf p = some .local := by show ¬ scope.names.lookup p = _; rw [h1]; exact fun q => by cases q
      exact .cell kk o (.inl h1) hkk (List.mem_append_left _ g1) (by rw [g2, bindC_at hnl nd hm])
  have fin : ∀ v av σ' s' W' m', RelF c (fb'.setm m') W' σ' s' → W.Le W' → VR c.CR W' av v → Done σ Q av σ' → LeaveK fb.h₀ fb.L fb.m g (fun r s' => match r with | .ok (.ret v) => Qc v s' | .ok _ => False | .error e => Ec e s') v s' := fun v av σ' s' W' m' R₁ le V₁ q => by
    refine leaveK_ R₁.F R₁.N fun F₂ N₂ => ?_
    have R₂ : RelF c fb W' σ' s' := ⟨Lg.dropL R₁.toLg, F₂, fun q hq' => N₂ q (memq q hq'), R₁.sm⟩
    rcases q with q | ⟨k, hk1, hk2, hk3, q⟩
    · exact hq _ _ _ _ _ R₂ le V₁ q
    · exact hq _ _ _ _ _ (R₂.cut hk3) (le_cut le (by rw [R.hr.length]; exact hk1)) (V₁.cut hk2) q
  refine hb L' fb' k _ W σ _ (DoneX σ ex) (Done σ Q) _ _ _ fo' rfl R' L₀ E (fun ρ' σ' s' W' m' R₁ le L₁ q => fin .none .none σ' s' W' m' R₁ le .none q) (fun v av σ' s' W' m' R₁ le V₁ q => fin v av σ' s' W' m' R₁ le V₁ q) fun e σ' s' W' m' Rx₁ le q => ?_
  obtain ⟨a, rfl, w⟩ := Rx₁.way
  refine way_leave (fb := fb'.setm m') (fo'.set m') w fun h' B a0 x1 x2 x3 => ?_
  have sub : ∀ {W'' : GW}, (∀ q ∈ led W'' fb.Hid, q ∈ led W' (cells ++ fb.Hid)) → Way c fb (led W'' fb.Hid) a h' := fun hs => .fly g B a0 .none Fg ⟨x1.1, fun q hq' => x1.2 q (hs q hq')⟩ x2 x3
  rcases q with q | ⟨k, hk1, hk3, q⟩
  · exact hx _ _ _ _ ⟨Lg.dropL Rx₁.toLg, ⟨Rx₁.sm.1, Rx₁.sm.2, Rx₁.sm.3⟩, a, rfl, sub memq⟩ le q
  · exact hx _ _ _ _ ⟨(Lg.dropL Rx₁.toLg).cut hk3, ⟨Rx₁.sm.1, Rx₁.sm.2, Rx₁.sm.3⟩, a, rfl, sub fun q hq' => memq q (led_cut.subset hq')⟩ (le_cut le (by rw [R.hr.length]; exact hk1)) q
theorem snd_fn {f : Addr} {name qual : Str} {params : Arguments} {body : List Stmt} {scope : Scope} {cdv : Value} {ps : List Str} {xs : List XS} (F : FnOk c f name qual params body scope cdv ps)
    (hb : ∀ L, SS c C n (envOfC qual scope L f cdv) body xs) {args : List AV} {vs : List Value} {ex : St → Prop} {Q : KE} {Qc Ec : Value → Shared → Prop} (fo : FB.ok fb c (n + 1)) (R : RelF c fb W σ s) (V : VRs c.CR W args vs)
    (E : runF C (ps.map cp) xs args σ ex Q) (hq : PQ c fb W Q Qc) (hx : PX c fb W ex Ec) : codeAny (model c.prog c.w) fb.A (.call (.ref f) ⟨vs, []⟩) (RetP Qc Ec) s := by
  obtain ⟨oc, od, dV, kV, doc, pm, an, ct, osl, ho, hbind⟩ := F.ho
  have hlen := E.1
  rw [List.length_map] at hlen
  exact snd_fnB ho F.hcd F.hkind F.hnd F.hps F.hco F.hgen F.hk hb fo (by have := fo.dp; omega) (by have := fo.un; omega) R V (hbind vs (by rw [V.length, hlen]) s) E hq hx
end
end
section
open PySem PySem.W PyProof.Rows PySem.Calls
section
variable {c : Cx} {C : Ctr} {n : Nat} {gl : Str → Option GV}

theorem mapO_F2 {α β : Type} {f : α → Option β} {l : List α} : ∀ {r : List β}, mapO f l = some r → F2 (fun a b => f a = some b) l r := by
  induction l with
  | nil => intro r h; obtain rfl := Option.some.inj h; exact .nil
  | cons a l ih =>
    intro r h
    obtain ⟨b, hb, h⟩ := obind_inv h
    obtain ⟨bs, hbs, h⟩ := obind_inv h
    obtain rfl := Option.some.inj h
    exact .cons hb (ih hbs)
theorem F2.impM {α β : Type} {R S : α → β → Prop} {l m} (h : F2 R l m) : (∀ a ∈ l, ∀ b, R a b → S a b) → F2 S l m := by
  induction h with
  | nil => exact fun _ => .nil
  | cons x _ ih => exact fun h => .cons (h _ (.head _) _ x) (ih fun a ha => h a (.tail _ ha))

structure KOk (ev : Env) (sc : List (Str × NameKind)) : Prop where
  fn : ev.scope.kind = .function
  loc : ∀ x, sc.lookup x = some .local → ev.kindOf x = some .local
  glo : ∀ x, sc.lookup x = some .globalImplicit → ev.kindOf x = some .globalImplicit
  cel : ∀ x, sc.lookup x = some .cell → ev.kindOf x = some .cell ∧ (ev.cells.lookup x).isSome = true

/-! ### the comprehension's closure -/
theorem closure_go {env : Env} : ∀ (names : List (Str × NameKind)) (acc : List (Str × Addr)), (∀ p ∈ names, p.2 = .free → (env.cells.lookup p.1).isSome = true) →
    ∃ cl, (forIn names acc fun (x : Str × NameKind) (r : List (Str × Addr)) => (match x with | (name, kind) => if (kind == NameKind.free) = true then do let a ← cellOf env name; pure (ForInStep.yield ((name, a) :: r)) else pure (ForInStep.yield r) : Sem (ForInStep (List (Str × Addr))))) = pure cl ∧
      (∀ y, (∃ p ∈ names, p.1 = y ∧ p.2 = .free) → cl.lookup y = env.cells.lookup y) ∧ (∀ y, (∀ p ∈ names, ¬ (p.1 = y ∧ p.2 = .free)) → cl.lookup y = acc.lookup y)
  | [], acc, _ => ⟨acc, rfl, fun y ⟨p, hp, _⟩ => by simp at hp, fun y _ => rfl⟩
  | (nm, kd) :: r, acc, h => by
    rw [List.forIn_cons]
    by_cases hk : kd = .free
    · subst hk
      obtain ⟨a, ha⟩ := Option.isSome_iff_exists.mp (h (nm, .free) (.head _) rfl)
      obtain ⟨cl, h1, h2, h3⟩ := closure_go r ((nm, a) :: acc) fun p hp => h p (.tail _ hp)
      refine ⟨cl, ?_, fun y hy => ?_, fun y hy => ?_⟩
      · have e : cellOf env nm = pure a := by unfold cellOf; rw [ha]
        simp only [beq_self_eq_true, if_true, e, pure_bind]
        exact h1
      · by_cases hr : ∃ p ∈ r, p.1 = y ∧ p.2 = .free
        · exact h2 y hr
        · obtain ⟨p, hp, e1, e2⟩ := hy
          rcases List.mem_cons.mp hp with rfl | hp
          · have e3 := h3 y fun p hp hq => hr ⟨p, hp, hq⟩
            rw [e3, ← e1, List.lookup_cons]
            simp [ha]
          · exact absurd ⟨p, hp, e1, e2⟩ hr
      · have e3 := h3 y fun p hp => hy p (.tail _ hp)
        have ne : ¬ y = nm := fun q => hy (nm, .free) (.head _) ⟨q.symm, rfl⟩
        rw [e3, List.lookup_cons, beq_eq_false_iff_ne.mpr ne]
    · obtain ⟨cl, h1, h2, h3⟩ := closure_go r acc fun p hp => h p (.tail _ hp)
      refine ⟨cl, ?_, fun y hy => ?_, fun y hy => h3 y fun p hp => hy p (.tail _ hp)⟩
      · have : ¬ (kd == NameKind.free) = true := by rw [beq_eq_false_iff_ne.mpr hk]; decide
        dsimp only
        rw [if_neg this, pure_bind]
        exact h1
      · refine h2 y ?_
        obtain ⟨p, hp, e1, e2⟩ := hy
        rcases List.mem_cons.mp hp with rfl | hp
        · exact absurd e2 hk
        · exact ⟨p, hp, e1, e2⟩
theorem closure_ok {scope : Scope} {env : Env} (h : ∀ p ∈ scope.names, p.2 = .free → (env.cells.lookup p.1).isSome = true) : ∃ cl, closureFor scope env = pure cl ∧ ∀ y, (∃ p ∈ scope.names, p.1 = y ∧ p.2 = .free) → cl.lookup y = env.cells.lookup y := by
  obtain ⟨cl, h1, h2, _⟩ := closure_go scope.names [] h
  refine ⟨cl, ?_, h2⟩
  unfold closureFor
  refine Eq.trans (congrArg (fun m : Sem (List (Str × Addr)) => m >>= fun cs => pure cs) (Eq.trans ?_ h1)) (by simp)
  rfl

theorem KOk.comp {ev : Env} {sc : List (Str × NameKind)} {scope : Scope} {cl : List (Str × Addr)} {a : Addr} (h : KOk ev sc) (hc : compOk sc scope = true) : KOk (compEnvC scope cl a ev) scope.names := by
  unfold compOk at hc
  rw [Bool.and_eq_true, List.all_eq_true] at hc
  have hk : scope.kind = .function := by simpa using hc.1
  refine ⟨hk, fun x hx => lookup_relabel_local hx, fun x hx => ?_, fun x hx => ?_⟩
  · show List.lookup x (scope.names.map _) = _
    have : ∀ names : List (Str × NameKind), names.lookup x = some .globalImplicit → List.lookup x (names.map fun (n, k) => if (k == NameKind.free && ev.scope.kind == .function && ev.kindOf n == some .cell) then (n, NameKind.cell) else (n, k)) = some .globalImplicit := by
      intro names
      induction names with
      | nil => intro h; cases h
      | cons p r ih =>
        obtain ⟨nm, kd⟩ := p
        intro h
        rw [List.lookup_cons] at h
        rw [List.map_cons]
        cases e : x == nm with
        | true =>
          rw [e] at h
          cases h
          simp [List.lookup_cons, e]
        | false =>
          rw [e] at h
          have ih' := ih h
          dsimp only
          split <;> (rw [List.lookup_cons, e]; exact ih')
    exact this _ hx
  · exfalso
    have : ∀ names : List (Str × NameKind), names.lookup x = some .cell → (x, NameKind.cell) ∈ names := by
      intro names
      induction names with
      | nil => intro h; cases h
      | cons p r ih =>
        obtain ⟨nm, kd⟩ := p
        intro h
        rw [List.lookup_cons] at h
        cases e : x == nm with
        | true =>
          rw [e] at h
          cases h
          have : x = nm := by simpa using e
          subst this
          exact .head _
        | false => rw [e] at h; exact .tail _ (ih h)
    have := hc.2 _ (this _ hx)
    simp at this
theorem relabel_cell {ev : Env} {sc : List (Str × NameKind)} (h : KOk ev sc) {x : Str} (hx : sc.lookup x = some .cell) : ∀ {names : List (Str × NameKind)}, names.lookup x = some .free →
    List.lookup x (names.map fun (n, k) => if (k == NameKind.free && ev.scope.kind == .function && ev.kindOf n == some .cell) then (n, NameKind.cell) else (n, k)) = some .cell := by
  intro names
  induction names with
  | nil => intro h; cases h
  | cons p r ih =>
    obtain ⟨nm, kd⟩ := p
    intro hl
    rw [List.lookup_cons] at hl
    rw [List.map_cons]
    split at hl
    · rename_i e
      cases hl
      have e' : x = nm := by simpa using e
      subst e'
      have := (h.cel x hx).1
      simp [List.lookup_cons, this, h.fn]
    · rename_i e
      have ih' := ih hl
      dsimp only
      split <;> (rw [List.lookup_cons, e]; exact ih')

theorem comp_ok {ev : Env} {sc : List (Str × NameKind)} {scope : Scope} {elt it : Expr} {x : Str} {e' it' : X} (h : KOk ev sc) (hc : compOk sc scope = true) (hx : scope.names.lookup x = some .local) (hf : ∀ v, foldedSetIterable it ev v = pure v)
    (si : SI c C n ev it it') (he : ∀ ev', KOk ev' scope.names → SE c C n ev' elt e') : CompOk c C n ev elt it x scope e' it' ((scope.names.filter fun q => decide (q.2 = .free)).map fun q => cp q.1) := by
  have hc0 := hc
  unfold compOk at hc
  rw [Bool.and_eq_true, List.all_eq_true] at hc
  have hk : scope.kind = .function := by simpa using hc.1
  have hfree : ∀ p ∈ scope.names, p.2 = .free → sc.lookup p.1 = some .cell ∧ scope.names.lookup p.1 = some .free := fun p hp hq => by
    have := hc.2 p hp
    rw [hq] at this
    simpa using this
  obtain ⟨cl, h1, h2⟩ := closure_ok (scope := scope) (env := ev) fun p hp hq => (h.cel _ (hfree p hp hq).1).2
  refine ⟨si, ⟨cl, h1, fun a => he _ (h.comp hc0), fun y hy => ?_⟩, hf, hk, fun y hy hq => ?_, fun y hy hq => ?_, hx⟩
  · rw [List.contains_iff_mem, List.mem_map] at hy
    obtain ⟨p, hp, rfl⟩ := hy
    rw [List.mem_filter] at hp
    have hpf : p.2 = .free := by simpa using hp.2
    have en : (⟨(cp p.1).toArray⟩ : Str) = p.1 := by simp [cp]
    rw [en]
    obtain ⟨g1, g2⟩ := hfree p hp.1 hpf
    exact ⟨(h.cel _ g1).1, fun a => relabel_cell h g1 g2, h2 _ ⟨p, hp.1, rfl, hpf⟩⟩
  · have := hc.2 y hy
    rw [hq] at this
    simp at this
  · have := hc.2 y hy
    rw [hq] at this
    simpa using this
end
end
section
open PySem PySem.W PyProof.Rows PySem.Calls
set_option maxHeartbeats 1000000
section
variable {c : Cx} {C : Ctr} {n : Nat} {gl : Str → Option GV} {k : Nat} {sc : List (Str × NameKind)} {ev : Env} {e : Expr} {x : X}

theorem noS {α : Type} {a : α} {P : Prop} (h : none = some a) : P := nomatch h
theorem ob_inv {α β : Type} {a : Option α} {f : α → Option β} {y : β} (h : a.bind f = some y) : ∃ x, a = some x ∧ f x = some y := by
  cases a with
  | none => exact noS h
  | some x => exact ⟨x, rfl, h⟩
theorem og_inv {α : Type} {p : Prop} [Decidable p] {a b : α} (h : og p a = some b) : p ∧ a = b := by
  unfold og at h
  by_cases hp : p
  · rw [if_pos hp] at h; exact ⟨hp, Option.some.inj h⟩
  · rw [if_neg hp] at h; exact noS h

theorem nmP_inv {q : Str × Pos} (h : nmP e = some q) : e = .Name q.1 q.2 := by
  cases e with
  | Name x p => obtain rfl := Option.some.inj h; rfl
  | _ => exact noS h

/-! ### what is so of all that is translated -/
noncomputable def setB : Expr → Bool
  | .Set .. => true
  | _ => false
structure Shp (e : Expr) : Prop where
  star : ∀ ev, starEach [e] ev = [(false, eval e ev)]
  fold : ∀ ev v, foldedSetIterable e ev v = pure v
  nset : setB e = false
  subs : ∀ o i, subscripted e false o i = operate [o, i] (getItem o i)
  aug : ∀ ov iv new, augStore e ov iv new = (do holding [new, ov, iv] (setItem ov iv new); release [new, ov, iv] []; pure .next)
  swap : notComp e = true → ∀ t l env, swapsWith e t l env = pure false
  tup : asTup e = none → ∀ ts k tp env, swappedStores [.Tuple ts k tp] e env = pure none
theorem tr_shp (h : trE gl k sc e = some x) : Shp e := by
  cases k with
  | zero => exact noS h
  | succ k =>
    cases e <;> first | exact noS h | exact ⟨fun _ => rfl, fun _ _ => rfl, rfl, fun _ _ => rfl, fun _ _ _ => rfl, fun _ _ _ _ => rfl, fun _ _ _ _ _ => rfl⟩ | exact ⟨fun _ => rfl, fun _ _ => rfl, rfl, fun _ _ => rfl, fun _ _ _ => rfl, fun q => Bool.noConfusion q, fun _ _ _ _ _ => rfl⟩ | exact ⟨fun _ => rfl, fun _ _ => rfl, rfl, fun _ _ => rfl, fun _ _ _ => rfl, fun _ _ _ _ => rfl, fun q => noS q.symm⟩
theorem tr_star (h : trE gl k sc e = some x) : starEach [e] ev = [(false, eval e ev)] := (tr_shp h).star ev
theorem tr_fold (h : trE gl k sc e = some x) : ∀ v, foldedSetIterable e ev v = pure v := (tr_shp h).fold ev
theorem setB_ne (h : setB e = false) : ∀ a b p, e ≠ .Set a b p := by
  rintro a b p rfl
  cases h
theorem sets_ne {l : List Expr} {m : List X} (h : F2 (fun a b => trE gl k sc a = some b) l m) : ∀ e ∈ l, ∀ a b p, e ≠ .Set a b p := by
  induction h with
  | nil => intro e he; cases he
  | cons h1 _ ih =>
    intro e he
    rcases List.mem_cons.mp he with rfl | he
    · exact setB_ne (tr_shp h1).nset
    · exact ih e he

theorem se_bi {b} : SE c C n ev e (.bi b) := by
  intro fb k' ρ W σ s ex Q Qc Ec f eo R L E hq hx
  cases k' <;> exact False.elim E
theorem st_ite {a b d} : ST c C n ev e (.ite a b d) := by
  intro fb k' ρ W σ s ex Q Qc Ec whole f eo R L E hw hq hx
  cases k' <;> exact False.elim E
theorem m_append : (⟨[97, 112, 112, 101, 110, 100].toArray⟩ : Str) = "append" := by decide
theorem m_find : (⟨[102, 105, 110, 100].toArray⟩ : Str) = "find" := by decide
theorem m_join : (⟨[106, 111, 105, 110].toArray⟩ : Str) = "join" := by decide
theorem m_get : (⟨[103, 101, 116].toArray⟩ : Str) = "get" := by decide
theorem cp_eq {nm : Str} {l : List Nat} {t : Str} (h : cp nm = l) (e : (⟨l.toArray⟩ : Str) = t) : nm = t := by
  rw [← e, ← h]; simp [cp]

theorem trK_inv : ∀ {o : Option Expr} {nm : List Nat}, trK o = some nm → ∃ s k p, o = some (.Constant (.str s) k p) ∧ nm = cp s
  | none, _, h => noS h
  | some e, nm, h => by
    cases e with
    | Constant cc k p => cases cc with
      | str s => exact ⟨s, k, p, rfl, (Option.some.inj h).symm⟩
      | _ => exact noS h
    | _ => exact noS h
theorem mapO_cons {α β : Type} {f : α → Option β} {a : α} {l : List α} {r : List β} (h : mapO f (a :: l) = some r) : ∃ b bs, f a = some b ∧ mapO f l = some bs ∧ b :: bs = r := by
  obtain ⟨b, hb, h⟩ := obind_inv h
  obtain ⟨bs, hbs, h⟩ := obind_inv h
  exact ⟨b, bs, hb, hbs, Option.some.inj h⟩
theorem dr_of : ∀ {ks : List (Option Expr)} {vs : List Expr} {kn : List (List Nat)} {xs : List X}, mapO trK ks = some kn → SEM c C n ev vs xs → kn.length = xs.length → DR c C n ev ks vs (kn.zip xs)
  | [], vs, kn, xs, h, hm, hl => by
    obtain rfl := Option.some.inj h
    obtain rfl : xs = [] := List.length_eq_zero_iff.mp hl.symm
    cases hm
    exact .nil
  | k :: ks, vs, kn, xs, h, hm, hl => by
    obtain ⟨nm, r, hk, hr, rfl⟩ := mapO_cons h
    obtain ⟨s, kk, p, rfl, rfl⟩ := trK_inv hk
    cases hm with
    | nil => cases hl
    | cons h1 h2 => exact .cons h1 (dr_of hr h2 (Nat.succ.inj hl))
theorem zip_map_fst {α β : Type} : ∀ {l : List α} {m : List β}, l.length = m.length → (l.zip m).map (·.1) = l
  | [], [], _ => rfl
  | a :: l, b :: m, h => by rw [List.zip_cons_cons, List.map_cons, zip_map_fst (Nat.succ.inj h)]
theorem se_dict {ks : List (Option Expr)} {vs : List Expr} {kn : List (List Nat)} {xs : List X} {pos} (hk : mapO trK ks = some kn) (hv : SEM c C n ev vs xs) (hc : kn.length = xs.length ∧ kn.Nodup ∧ (kn.length ≤ 15 ∨ kn.length = 21)) : SE c C n ev (.Dict ks vs pos) (.dict (kn.zip xs)) := by
  have hd := dr_of hk hv hc.1
  have hl := hd.len
  have hkl : ks.length = kn.length := by rw [hl.2.2, List.length_zip, hc.1, Nat.min_self]
  have hn : ((kn.zip xs).map (·.1)).Nodup := by rw [zip_map_fst hc.1]; exact hc.2.1
  by_cases h0 : ks = []
  · subst h0
    obtain rfl : vs = [] := List.length_eq_zero_iff.mp hl.1.symm
    rw [show kn.zip xs = [] from List.length_eq_zero_iff.mp hl.2.2.symm]
    exact ev_dict0
  · rcases hc.2.2 with h15 | h21
    · exact ev_dict hd hn h0 (by rw [hkl]; exact h15)
    · exact ev_dict21 hd hn (by rw [hkl]; exact h21)

/-- what is so of an expression's translation -/
structure OkE (c : Cx) (C : Ctr) (n : Nat) (gl : Str → Option GV) (sc : List (Str × NameKind)) (ev : Env) (e : Expr) (x : X) : Prop where
  se : SE c C n ev e x
  st : ST c C n ev e x
  si : srcOk x = true → SI c C n ev e x
  bi : biX x = true → ∃ nm p b, e = .Name nm p ∧ x = .bi b ∧ gl nm = some (.bi b) ∧ sc.lookup nm = some .globalImplicit
theorem OkE.pl (h : SE c C n ev e x) (hc : condX x = false) (hb : bcX x = false) (hi : biX x = false) (he : ∀ whole, PySem.isTrue e ev whole = (do let v ← whole; standAt e.pos; holding [v] (truthy v))) : OkE c C n gl sc ev e x :=
  ⟨h, et_val h hc he, fun _ => si_list h hb, fun q => absurd (hi.symm.trans q) Bool.false_ne_true⟩
theorem OkE.co (h : SE c C n ev e x) (h' : ST c C n ev e x) (hb : bcX x = false) (hi : biX x = false) : OkE c C n gl sc ev e x := ⟨h, h', fun _ => si_list h hb, fun q => absurd (hi.symm.trans q) Bool.false_ne_true⟩

theorem ok_const {cc kk pos} (h : trC cc = some x) : OkE c C n gl sc ev (.Constant cc kk pos) x := by
  have h1 := ev_const (c := c) (n := n) (ev := ev) (k := kk) (pos := pos) h C
  cases cc <;> first | exact noS h | (obtain rfl := Option.some.inj h; exact .pl h1 rfl rfl rfl fun _ => rfl)
theorem ok_nm {nm : Str} {pos : Pos} (hd : (nm == ("__debug__" : Str)) = false) (h : some (.name (cp nm)) = some x) : OkE c C n gl sc ev (.Name nm pos) x := by
  obtain rfl := Option.some.inj h
  exact .pl (ev_name C hd) rfl rfl rfl fun _ => rfl
theorem ok_gl (hg : GlR c gl) (ko : KOk ev sc) {nm : Str} {pos : Pos} (hd : (nm == ("__debug__" : Str)) = false) (hk : sc.lookup nm = some .globalImplicit) (h : gvX (gl nm) = some x) : OkE c C n gl sc ev (.Name nm pos) x := by
  cases ha : gl nm with
  | none => rw [ha] at h; exact noS h
  | some v =>
    rw [ha] at h
    cases v with
    | av a =>
      obtain rfl := Option.some.inj h
      exact .pl (ev_glob C hg ha (ko.glo _ hk) hd) rfl rfl rfl fun _ => rfl
    | bi b =>
      obtain rfl := Option.some.inj h
      exact ⟨se_bi, et_val se_bi rfl fun _ => rfl, fun _ => si_list se_bi rfl, fun _ => ⟨nm, pos, b, rfl, rfl, ha, hk⟩⟩
theorem ok_name (hg : GlR c gl) (ko : KOk ev sc) {nm : Str} {pos : Pos} (h : trNm gl sc nm = some x) : OkE c C n gl sc ev (.Name nm pos) x := by
  unfold trNm at h
  by_cases hd : nm = ("__debug__" : Str)
  · rw [if_pos hd] at h; exact noS h
  · rw [if_neg hd] at h
    have hd' : (nm == ("__debug__" : Str)) = false := beq_eq_false_iff_ne.mpr hd
    cases hk : sc.lookup nm with
    | none => rw [hk] at h; exact noS h
    | some kd =>
      rw [hk] at h
      cases kd with
      | globalImplicit => exact ok_gl hg ko hd' hk h
      | «local» => exact ok_nm hd' h
      | cell => exact ok_nm hd' h
      | free => exact ok_nm hd' h
      | _ => exact noS h
theorem ok_meth (co : CxOk c) (sn : SndC c C n) {o : Expr} {nm : Str} {ap p : Pos} {as : List Expr} {a : X} {xs : List X} (h1 : SE c C n ev o a) (h2 : SEL c C n ev as xs) (hc : notCall o = true ∧ ap.endLine = p.line ∧ as.length < 20) : SE c C n ev (.Call (.Attribute o nm ap) as [] p) (.meth a (methOf (cp nm)) xs) := by
  unfold methOf
  by_cases e1 : cp nm = [97, 112, 112, 101, 110, 100]
  · rw [if_pos e1]; obtain rfl := cp_eq e1 m_append; exact ev_append h1 h2 hc.1 hc.2.1 hc.2.2
  rw [if_neg e1]
  by_cases e2 : cp nm = [102, 105, 110, 100]
  · rw [if_pos e2]; obtain rfl := cp_eq e2 m_find; exact ev_find h1 h2 hc.1 hc.2.1 hc.2.2
  rw [if_neg e2]
  by_cases e3 : cp nm = [106, 111, 105, 110]
  · rw [if_pos e3]; obtain rfl := cp_eq e3 m_join; exact ev_join h1 h2 hc.1 hc.2.1 hc.2.2
  rw [if_neg e3]
  by_cases e4 : cp nm = [103, 101, 116]
  · rw [if_pos e4]; obtain rfl := cp_eq e4 m_get; exact ev_get h1 h2 hc.1 hc.2.1 hc.2.2
  rw [if_neg e4]
  exact ev_meth co sn h1 h2 hc.1 hc.2.1 hc.2.2

theorem trFn_call {a : X} {xs : List X} (hb : ¬ biX a = true) : trFn a xs = some (.call a xs) := by
  cases a <;> first | rfl | exact absurd rfl hb
theorem tupB_inv {y : X} (h : tupB y = true) : y = .bi .tuple := by
  cases y <;> first | exact congrArg X.bi (of_decide_eq_true h) | exact absurd h Bool.false_ne_true
theorem instArg_inv {b : BI} {xs : List X} {a : X} (h : instArg b xs = some a) : b = .isinstance ∧ xs = [a, .bi .tuple] := by
  cases b with
  | «isinstance» =>
    rcases xs with _ | ⟨x, _ | ⟨y, _ | _⟩⟩
    · exact noS h
    · exact noS h
    · obtain ⟨h1, h2⟩ := og_inv (p := tupB y = true) h
      exact ⟨rfl, by rw [h2, tupB_inv h1]⟩
    · exact noS h
  | _ => exact noS h
theorem srcOk_bc {b : BI} {xs : List X} (h : srcOk (.bcall b xs) = true) : b = .range ∧ ∃ a, xs = [a] := by
  cases b with
  | range =>
    rcases xs with _ | ⟨x, _ | _⟩
    · exact absurd h Bool.false_ne_true
    · exact ⟨rfl, x, rfl⟩
    · exact absurd h Bool.false_ne_true
  | _ => exact absurd h Bool.false_ne_true
noncomputable def attB : Expr → Bool
  | .Attribute .. => true
  | _ => false
theorem attB_ne (h : attB e = false) : ∀ o a q, e ≠ .Attribute o a q := by
  rintro o a q rfl
  cases h
noncomputable def TrOk (c : Cx) (C : Ctr) (n : Nat) (gl : Str → Option GV) (k : Nat) : Prop := ∀ sc ev e x, KOk ev sc → trE gl k sc e = some x → OkE c C n gl sc ev e x
section
variable (ih : TrOk c C n gl k)
include ih
theorem TrOk.sem (ko : KOk ev sc) {es : List Expr} {xs : List X} (hm : mapO (trE gl k sc) es = some xs) : SEM c C n ev es xs := (mapO_F2 hm).imp fun a b hab => (ih _ _ _ _ ko hab).se
theorem TrOk.stm (ko : KOk ev sc) {es : List Expr} {xs : List X} (hm : mapO (trE gl k sc) es = some xs) : STM c C n ev es xs := (mapO_F2 hm).imp fun a b hab => (ih _ _ _ _ ko hab).st
theorem TrOk.sel (ko : KOk ev sc) {es : List Expr} {xs : List X} (hm : mapO (trE gl k sc) es = some xs) : SEL c C n ev es xs := (mapO_F2 hm).imp fun a b hab => ⟨(ih _ _ _ _ ko hab).se, tr_star hab⟩
theorem TrOk.so (ko : KOk ev sc) : ∀ {o : Option Expr} {x : Option X}, trO (trE gl k sc) o = some x → SO c C n ev o x
  | none, _, h => by obtain rfl := Option.some.inj h; exact trivial
  | some e, _, h => by
    obtain ⟨y, hy, h⟩ := ob_inv (a := trE gl k sc e) h
    obtain rfl := Option.some.inj h
    exact (ih _ _ _ _ ko hy).se
theorem ok_sub (ko : KOk ev sc) {v i : Expr} {pos : Pos} (h : (trE gl k sc v).bind (fun a => (trE gl k sc i).bind fun b => some (X.sub a b)) = some x) : OkE c C n gl sc ev (.Subscript v i pos) x := by
  obtain ⟨a, ha, h⟩ := ob_inv h
  obtain ⟨b, hb, h⟩ := ob_inv h
  obtain rfl := Option.some.inj h
  exact .pl (ev_sub (ih _ _ _ _ ko ha).se (ih _ _ _ _ ko hb).se (tr_shp hb).subs) rfl rfl rfl fun _ => rfl
theorem ok_subs (ko : KOk ev sc) {v i : Expr} {pos : Pos} (h : trSub (trE gl k sc) v i = some x) : OkE c C n gl sc ev (.Subscript v i pos) x := by
  cases i with
  | Slice lo hi st p =>
    obtain ⟨a, ha, h⟩ := ob_inv h
    obtain ⟨l, hl, h⟩ := ob_inv h
    obtain ⟨hh, hr, h⟩ := ob_inv h
    obtain ⟨hc, rfl⟩ := og_inv h
    obtain ⟨rfl, _⟩ := hc
    exact .pl (ev_slc (ih _ _ _ _ ko ha).se (ih.so ko hl) (ih.so ko hr)) rfl rfl rfl fun _ => rfl
  | _ => exact ok_sub ih ko h
theorem se_bc (hg : GlR c gl) (ko : KOk ev sc) {b : BI} {p' p : Pos} {as : List Expr} {xs : List X} (g1 : gl b.name = some (.bi b)) (g2 : sc.lookup b.name = some .globalImplicit) (g4 : nsIn c.K mainGlobals b.name = some none) (hm : mapO (trE gl k sc) as = some xs) : SE c C n ev (.Call (.Name b.name p') as [] p) (.bcall b xs) := by
  cases hi : instArg b xs with
  | none => exact ev_bcall (ih.sel ko hm) (ko.glo _ g2) g4 hi
  | some a =>
    obtain ⟨rfl, rfl⟩ := instArg_inv hi
    rcases mapO_F2 hm with _ | ⟨t1, _ | ⟨t2, _ | _⟩⟩
    obtain ⟨nm2, p2, b2, rfl, e2, k1, k2⟩ := (ih _ _ _ _ ko t2).bi rfl
    cases e2
    obtain ⟨rfl, k4⟩ := hg _ _ k1
    exact ev_isinst (ih _ _ _ _ ko t1).se (tr_star t1) (ko.glo _ g2) g4 (ko.glo _ k2) k4
theorem ok_fn (co : CxOk c) (sn : SndC c C n) (hg : GlR c gl) (ko : KOk ev sc) {f : Expr} {as : List Expr} {p : Pos} (hna : ∀ o a q, f ≠ .Attribute o a q) (h : (trE gl k sc f).bind (fun a => (mapO (trE gl k sc) as).bind fun xs => trFn a xs) = some x) : OkE c C n gl sc ev (.Call f as [] p) x := by
  obtain ⟨a, ha, h⟩ := ob_inv h
  obtain ⟨xs, hm, h⟩ := ob_inv h
  have hf := ih _ _ _ _ ko ha
  by_cases hb : biX a = true
  · obtain ⟨nm, p', b, rfl, rfl, g1, g2⟩ := hf.bi hb
    obtain ⟨_, rfl⟩ := og_inv (α := X) h
    obtain ⟨rfl, g4⟩ : nm = b.name ∧ _ := hg _ _ g1
    have h1 := se_bc (C := C) (p' := p') (p := p) ih hg ko g1 g2 g4 hm
    refine ⟨h1, et_val h1 rfl fun _ => rfl, fun hs => ?_, fun q => Bool.noConfusion q⟩
    obtain ⟨rfl, a, rfl⟩ := srcOk_bc hs
    rcases mapO_F2 hm with _ | ⟨t1, _ | _⟩
    exact si_range (ih _ _ _ _ ko t1).se (tr_star t1) (ko.glo _ g2) g4
  · obtain rfl := Option.some.inj ((trFn_call hb).symm.trans h)
    exact .pl (ev_call co sn hf.se (ih.sel ko hm) hna) rfl rfl rfl fun _ => rfl
theorem ok_call (co : CxOk c) (sn : SndC c C n) (hg : GlR c gl) (ko : KOk ev sc) {f : Expr} {as : List Expr} {p : Pos} (h : trCall (trE gl k sc) as p f = some x) : OkE c C n gl sc ev (.Call f as [] p) x := by
  cases f with
  | Attribute o nm ap =>
    obtain ⟨a, ha, h⟩ := ob_inv h
    obtain ⟨xs, hm, h⟩ := ob_inv h
    obtain ⟨hc, rfl⟩ := og_inv h
    exact .pl (ok_meth co sn (ih _ _ _ _ ko ha).se (ih.sel ko hm) hc) rfl rfl rfl fun _ => rfl
  | _ => exact ok_fn ih co sn hg ko (attB_ne rfl) h
theorem comp_of (ko : KOk ev sc) {elt : Expr} {gens : List Comprehension} {scope : Scope} (h : trComp (trE gl k) sc elt scope gens = some x) :
    ∃ nm xp it a b fs, gens = [⟨.Name nm xp, it, [], 0⟩] ∧ x = .comp a (cp nm) fs b ∧ CompOk c C n ev elt it nm scope a b fs := by
  rcases gens with _ | ⟨⟨tg, it, ifs, asy⟩, _ | _⟩
  · exact noS h
  · obtain ⟨⟨nm, xp⟩, hx, h⟩ := ob_inv (a := nmP tg) h
    obtain ⟨a, ha, h⟩ := ob_inv h
    obtain ⟨b, hb, h⟩ := ob_inv h
    obtain ⟨⟨rfl, rfl, hc⟩, rfl⟩ := og_inv h
    obtain rfl := nmP_inv hx
    exact ⟨_, _, _, a, b, _, rfl, rfl, comp_ok ko hc.2.1 hc.1 (tr_fold hb) ((ih _ _ _ _ ko hb).si hc.2.2) fun ev' ko' => (ih _ _ _ _ ko' ha).se⟩
  · exact noS h
theorem tr_step (co : CxOk c) (sn : SndC c C n) (hg : GlR c gl) : TrOk c C n gl (k + 1) := by
  intro sc ev e x ko h
  cases e with
  | Constant cc kk pos => exact ok_const h
  | Name nm pos => exact ok_name hg ko h
  | Tuple es kk pos =>
    obtain ⟨xs, hm, h⟩ := ob_inv h
    obtain rfl := Option.some.inj h
    exact .pl (ev_tup (ih.sel ko hm)) rfl rfl rfl fun _ => rfl
  | List es pos =>
    obtain ⟨xs, hm, h⟩ := ob_inv h
    obtain rfl := Option.some.inj h
    exact .pl (ev_lst (ih.sel ko hm)) rfl rfl rfl fun _ => rfl
  | Dict ks vs pos =>
    obtain ⟨kn, hk, h⟩ := ob_inv h
    obtain ⟨xs, hv, h⟩ := ob_inv h
    obtain ⟨hc, rfl⟩ := og_inv h
    exact .pl (se_dict hk (ih.sem ko hv) hc) rfl rfl rfl fun _ => rfl
  | BinOp l op r pos =>
    obtain ⟨a, ha, h⟩ := ob_inv h
    obtain ⟨b, hb, h⟩ := ob_inv h
    obtain rfl := Option.some.inj h
    exact .pl (ev_bin (ih _ _ _ _ ko ha).se (ih _ _ _ _ ko hb).se) rfl rfl rfl fun _ => rfl
  | UnaryOp op a pos =>
    obtain ⟨a, ha, h⟩ := ob_inv h
    obtain rfl := Option.some.inj h
    have h1 := ih _ _ _ _ ko ha
    cases op with
    | Not => exact .co (ev_un h1.se) (et_not h1.st) rfl rfl
    | _ => exact .pl (ev_un h1.se) rfl rfl rfl fun _ => rfl
  | BoolOp op es pos =>
    obtain ⟨xs, hm, h⟩ := ob_inv h
    obtain rfl := Option.some.inj h
    exact .co (ev_bool (ih.sem ko hm)) (et_bool (ih.stm ko hm)) rfl rfl
  | Compare l ops rs pos =>
    obtain ⟨a, ha, h⟩ := ob_inv h
    obtain ⟨bs, hb, h⟩ := ob_inv h
    obtain ⟨hc, rfl⟩ := og_inv h
    have hn := sets_ne (mapO_F2 hb)
    have hl := hc.1.trans (mapO_F2 hb).length.symm
    exact .co (ev_cmp (ih _ _ _ _ ko ha).se (ih.sem ko hb) hl hc.2 hn) (et_cmp (ih _ _ _ _ ko ha).se (ih.sem ko hb) hl hc.2 hn) rfl rfl
  | IfExp t a b pos =>
    obtain ⟨t, ht, h⟩ := ob_inv h
    obtain ⟨a, ha, h⟩ := ob_inv h
    obtain ⟨b, hb, h⟩ := ob_inv h
    obtain rfl := Option.some.inj h
    exact .co (ev_ite (ih _ _ _ _ ko ht).st (ih _ _ _ _ ko ha).se (ih _ _ _ _ ko hb).se) st_ite rfl rfl
  | Subscript v i pos => exact ok_subs ih ko h
  | Call f as kw pos =>
    cases kw with
    | nil => exact ok_call ih co sn hg ko h
    | cons _ _ => exact noS h
  | Attribute o nm pos =>
    obtain ⟨a, ha, h⟩ := ob_inv h
    obtain ⟨hc, rfl⟩ := og_inv h
    exact .pl (ev_attr co (ih _ _ _ _ ko ha).se hc) rfl rfl rfl fun _ => rfl
  | ListComp elt gens scope pos =>
    obtain ⟨nm, xp, it, a, b, fs, rfl, rfl, ok⟩ := comp_of ih ko h
    exact .pl (ev_comp ok) rfl rfl rfl fun _ => rfl
  | _ => exact noS h
end
theorem tr_all (co : CxOk c) (sn : SndC c C n) (hg : GlR c gl) : ∀ k, TrOk c C n gl k
  | 0 => fun _ _ _ _ _ h => noS h
  | k + 1 => tr_step (tr_all co sn hg k) co sn hg
/-- both ways -/
theorem tr_ok (co : CxOk c) (sn : SndC c C n) (hg : GlR c gl) (k) (sc) (ev) (e) (x) (ko : KOk ev sc) (h : trE gl k sc e = some x) : SE c C n ev e x ∧ ST c C n ev e x := ⟨(tr_all co sn hg k _ _ _ _ ko h).se, (tr_all co sn hg k _ _ _ _ ko h).st⟩
end
end
section
open PySem PySem.W PyProof.Rows PySem.Calls
set_option maxHeartbeats 1000000
section
variable {c : Cx} {C : Ctr} {n : Nat} {gl : Str → Option GV} {RF : Str}

/-- the raising of the own exception -/
noncomputable def RaiseOk (c : Cx) (n : Nat) (RF : Str) : Prop := ∀ fb W σ s (t : Str) (p p2 p3 pos : Pos) (kk : Nat) Qc Ec, FB.ok fb c n → RelF c fb W σ s → fb.env.kindOf RF = some .globalImplicit →
  (∀ e s' h, Fr fb.h₀ fb.L h fb.m → News fb.h₀ fb.L h (led W fb.Hid) → NewE h s'.heap e (.ref c.RF) → Same c s' → Ec (.ref e) s') → wpAny (model c.prog c.w) fb.A (exec (.Raise (some (.Call (.Name RF p) [.Constant (.str t) kk p2] [] p3)) none pos) fb.env) Qc Ec s

theorem s_raise {env : Env} {t : Str} {p p2 p3 pos : Pos} {kk : Nat} (hr : RaiseOk c n RF) (hk : env.kindOf RF = some .globalImplicit) : S1 c C n env (.Raise (some (.Call (.Name RF p) [.Constant (.str t) kk p2] [] p3)) none pos) (.raise (cp t)) := by
  intro fb k ρ W σ s ex R N Qc Ec f he Rl L E hn hr' hx
  subst he
  cases k with
  | zero => exact E.elim
  | succ k => exact hr fb W σ s t p p2 p3 pos kk Qc Ec f Rl hk fun e s' h F N x y => hx _ σ s' W fb.m ⟨Rl.toLg, y, e, rfl, .made h F N x⟩ (.refl _) E

theorem swaps_no {e : Expr} {t : Option Expr} {l : Nat} {env : Env} (h : notComp e = true) (k : Nat) {sc x} (ht : trE gl k sc e = some x) : swapsWith e t l env = pure false := (tr_shp ht).swap h _ _ _
theorem swaps_sole {e : Expr} {t : Expr} {l : Nat} {env : Env} (h : notComp e = true) (k : Nat) {sc x} (ht : trE gl k sc e = some x) : swapsWithSole [t] e l env = pure false := swaps_no (t := some t) h k ht
theorem trN_inv {sc : List (Str × NameKind)} {t : Expr} {x : List Nat} (h : trN sc t = some x) : ∃ nm p, t = .Name nm p ∧ sc.lookup nm = some .local ∧ cp nm = x := by
  obtain ⟨q, hq, h⟩ := ob_inv h
  obtain ⟨h1, h2⟩ := og_inv h
  exact ⟨q.1, q.2, nmP_inv hq, h1, h2⟩
theorem names_of {sc : List (Str × NameKind)} : ∀ {ts : List Expr} {xs : List (List Nat)}, mapO (trN sc) ts = some xs → ∃ nms : List (Str × Pos), ts = nms.map (fun q => Expr.Name q.1 q.2) ∧ xs = nms.map (fun q => cp q.1) ∧ ∀ q ∈ nms, sc.lookup q.1 = some .local
  | [], xs, h => ⟨[], rfl, (Option.some.inj h).symm, fun _ q => nomatch q⟩
  | t :: ts, xs, h => by
    obtain ⟨x, r, hx, hr, rfl⟩ := mapO_cons h
    obtain ⟨nms, rfl, rfl, h3⟩ := names_of hr
    obtain ⟨nm, p, rfl, hl, rfl⟩ := trN_inv hx
    refine ⟨(nm, p) :: nms, rfl, rfl, fun q hq => ?_⟩
    rcases List.mem_cons.mp hq with rfl | hq
    · exact hl
    · exact h3 q hq

theorem fm_le {α β : Type} {f : α → Option β} (l : List α) : (l.filterMap f).length ≤ l.length := List.length_filterMap_le f l
theorem fm_eq {α β : Type} {f g : α → Option β} : ∀ {l : List α}, (l.filterMap f).length = l.length → (∀ t ∈ l, ∀ id, f t = some id → g t = some id) → l.filterMap g = l.filterMap f
  | [], _, _ => rfl
  | a :: l, h, hh => by
    cases ha : f a with
    | none =>
      rw [List.filterMap_cons_none ha] at h
      exact absurd (h ▸ fm_le (f := f) l) (Nat.not_succ_le_self _)
    | some b =>
      rw [List.filterMap_cons_some ha] at h ⊢
      rw [List.filterMap_cons_some (hh a (.head _) b ha), fm_eq (Nat.succ.inj h) fun t ht => hh t (.tail _ ht)]

theorem ifn {α : Type} {p : Prop} [Decidable p] {a : Option α} {b : α} (h : (if p then none else a) = some b) : ¬ p ∧ a = some b := by
  by_cases hp : p
  · rw [if_pos hp] at h; exact noS h
  · rw [if_neg hp] at h; exact ⟨hp, h⟩
theorem swF_inv {sc : List (Str × NameKind)} {l : Nat} {t : Expr} {id : Str} (h : swF sc l t = some id) : ∃ pos, t = .Name id pos ∧ sc.lookup id = some .local ∧ (pos.line == l) = true := by
  obtain ⟨⟨nm, p⟩, hq, h⟩ := ob_inv h
  obtain ⟨h1, rfl⟩ := og_inv (p := (sc.lookup nm == some .local && p.line == l) = true) h
  rw [Bool.and_eq_true] at h1
  exact ⟨p, nmP_inv hq, eq_of_beq h1.1, h1.2⟩
theorem swapped_yes {sc : List (Str × NameKind)} {ev : Env} {ts vs : List Expr} {k tp k2 p2} {xs : List Str} (ko : KOk ev sc) (h : swapC sc ts vs = some xs) : swappedStores [.Tuple ts k tp] (.Tuple vs k2 p2) ev = pure (some xs) ∧ ∀ q ∈ xs, ev.kindOf q = some .local := by
  have hb : ev.blockKind = .function := by unfold Env.blockKind; rw [ko.fn]; rfl
  obtain ⟨h1, h⟩ := ifn h
  obtain ⟨h2, h⟩ := ifn h
  obtain ⟨h3, h⟩ := ifn h
  obtain ⟨h4, h⟩ := ifn h
  obtain ⟨h5, h⟩ := ifn h
  obtain rfl := Option.some.inj h
  have h30 := h3
  rw [Bool.or_eq_true, not_or] at h3
  have hlen := h3.1
  rw [Bool.not_eq_true, bne_eq_false_iff_eq] at hlen
  refine ⟨?_, fun q hq => ?_⟩
  · have he : ts.filterMap (fun | .Name id pos => if ev.kindOf id == some .local && pos.line == (ts.head?.map (·.pos.line)).getD 0 then some id else none | _ => none) = swN sc ts := fm_eq hlen fun t ht id hid => by
      obtain ⟨pos, rfl, g1, g2⟩ := swF_inv hid
      dsimp only
      rw [ko.loc _ g1, g2]
      rfl
    unfold swappedStores
    dsimp only
    refine Eq.trans (if_neg (by rw [hb]; simpa using h1)) ?_
    refine Eq.trans (if_neg h2) ?_
    erw [he]
    refine Eq.trans (if_neg h30) ?_
    refine Eq.trans (if_neg h4) ?_
    exact Eq.trans (if_neg h5) rfl
  · obtain ⟨t, ht, hid⟩ := List.mem_filterMap.mp hq
    obtain ⟨pos, rfl, g1, g2⟩ := swF_inv hid
    exact ko.loc _ g1
theorem comp_form {e : Expr} (h : ¬ notComp e = true) : ∃ elt gens scope pos, e = .ListComp elt gens scope pos := by
  cases e <;> first | exact absurd rfl h | exact ⟨_, _, _, _, rfl⟩
theorem swaps_yes {ev : Env} {sc : List (Str × NameKind)} {elt gens scope pos} {x : Str} {p : Pos} {l : Nat} (ko : KOk ev sc) (hx : sc.lookup x = some .local) (h : swapN x p (.ListComp elt gens scope pos) = true) : swapsWith (.ListComp elt gens scope pos) (some (.Name x p)) l ev = pure true := by
  have hb : ev.blockKind = .function := by unfold Env.blockKind; rw [ko.fn]; rfl
  unfold swapN at h
  unfold swapsWith
  simp only [hb, ko.loc _ hx]
  simp only [beq_self_eq_true, Bool.true_and, h]
theorem tup_form {e : Expr} {vs : List Expr} (h : asTup e = some vs) : ∃ k p, e = .Tuple vs k p := by
  cases e <;> first | exact noS h | exact ⟨_, _, by rw [Option.some.inj h]⟩

section
variable {k : Nat} {sc : List (Str × NameKind)} {ev : Env} {x : XS} {y : X} {e : Expr} {pos : Pos}
theorem ok_asg (co : CxOk c) (ih : TrOk c C n gl k) (i' : ∀ {gens : List Comprehension} {elt : Expr} {scope : Scope} {p : Pos} {y : X}, trE gl k sc (.ListComp elt gens scope p) = some y → ∃ nm xp it a b fs, gens = [⟨.Name nm xp, it, [], 0⟩] ∧ y = .comp a (cp nm) fs b ∧ CompOk c C n ev elt it nm scope a b fs)
    (ko : KOk ev sc) (hy : trE gl k sc e = some y) {a : Expr} (h : trAsg (trE gl k sc) sc e y a = some x) : S1 c C n ev (.Assign [a] e pos) x := by
  have he := (ih _ _ _ _ ko hy).se
  cases a with
  | Name nm p =>
    obtain ⟨hc, rfl⟩ := og_inv h
    by_cases hn : notComp e = true
    · exact s_name he (ko.loc _ hc.1) (swaps_no hn k hy)
    · obtain ⟨elt, gens, scope, p', rfl⟩ := comp_form hn
      obtain ⟨nm', xp, it, a, b, fs, rfl, rfl, ok⟩ := i' hy
      exact s_comp ok (ko.loc _ hc.1) (swaps_yes ko hc.1 (hc.2.resolve_left hn))
  | Tuple ts kk tp =>
    replace h : (match asTup e with
      | some vs => (swapC sc ts vs).bind fun xs => some (.asg (.rtup (xs.map cp)) y)
      | none => (mapO (trN sc) ts).bind fun xs => og (notComp e = true) (.asg (.tup xs) y)) = some x := h
    cases hv : asTup e with
    | some vs =>
      rw [hv] at h
      obtain ⟨k2, p2, rfl⟩ := tup_form hv
      obtain ⟨xs, hs, h⟩ := ob_inv h
      obtain rfl := Option.some.inj h
      obtain ⟨h1, h2⟩ := swapped_yes (k := kk) (tp := tp) (k2 := k2) (p2 := p2) ko hs
      exact s_rtup he h2 rfl h1
    | none =>
      rw [hv] at h
      obtain ⟨xs, hs, h⟩ := ob_inv h
      obtain ⟨hc, rfl⟩ := og_inv h
      obtain ⟨nms, rfl, rfl, hn⟩ := names_of hs
      exact s_tup he (fun q hq => ko.loc _ (hn q hq)) (swaps_sole hc k hy) ((tr_shp hy).tup hv _ _ _ _)
  | Subscript o i p =>
    obtain ⟨a, ha, h⟩ := ob_inv h
    obtain ⟨b, hb, h⟩ := ob_inv h
    obtain ⟨hc, rfl⟩ := og_inv h
    exact s_sub he (ih _ _ _ _ ko ha).se (ih _ _ _ _ ko hb).se (swaps_no hc k hy)
  | Attribute o nm p =>
    obtain ⟨a, ha, h⟩ := ob_inv h
    obtain ⟨hc, rfl⟩ := og_inv h
    exact s_attr co he (ih _ _ _ _ ko ha).se (swaps_no hc k hy)
  | _ => exact noS h
theorem ok_aug (ih : TrOk c C n gl k) (ko : KOk ev sc) {op : Operator} (hy : trE gl k sc e = some y) {a : Expr} (h : trAug (trE gl k sc) sc op y a = some x) : S1 c C n ev (.AugAssign a op e pos) x := by
  have he := (ih _ _ _ _ ko hy).se
  cases a with
  | Name nm p =>
    obtain ⟨hc, rfl⟩ := og_inv h
    exact s_aug he (ko.loc _ hc)
  | Subscript o i p =>
    obtain ⟨a, ha, h⟩ := ob_inv h
    obtain ⟨b, hb, h⟩ := ob_inv h
    obtain rfl := Option.some.inj h
    exact s_augsub he (ih _ _ _ _ ko ha).se (ih _ _ _ _ ko hb).se (tr_shp hb).aug
  | _ => exact noS h
theorem ok_for (ih : TrOk c C n gl k) (ko : KOk ev sc) {it : Expr} {i : X} {b : List Stmt} {b' : List XS} (hy : trE gl k sc it = some i) (hb : SS c C n ev b b') {a : Expr} (h : trFor sc i b' a = some x) : S1 c C n ev (.For a it b [] pos) x := by
  obtain ⟨⟨nm, p⟩, hq, h⟩ := ob_inv h
  obtain ⟨hc, rfl⟩ := og_inv h
  obtain rfl := nmP_inv hq
  exact s_for ((ih _ _ _ _ ko hy).si hc.2) (ih _ _ _ _ ko hy).se hb (ko.loc _ hc.1) (tr_fold hy)
theorem ok_raise (hr : RaiseOk c n RF) (ko : KOk ev sc) {e f : Option Expr} (h : trRaise RF sc e f = some x) : S1 c C n ev (.Raise e f pos) x := by
  rcases e with _ | e <;> rcases f with _ | f
  · exact noS h
  · exact noS h
  · cases e with
    | Call f as kw p =>
      rcases as with _ | ⟨a, _ | _⟩
      · exact noS h
      · obtain ⟨⟨nm, p⟩, hq, h⟩ := ob_inv (a := nmP f) h
        obtain ⟨t, ht, h⟩ := ob_inv h
        obtain ⟨⟨rfl, rfl, hx⟩, rfl⟩ := og_inv h
        obtain rfl := nmP_inv hq
        obtain ⟨s, k, p, e, rfl⟩ := trK_inv ht
        obtain rfl := Option.some.inj e
        exact s_raise hr (ko.glo _ hx)
      · exact noS h
    | _ => exact noS h
  · exact noS h
end
theorem ts_ok (co : CxOk c) (sn : SndC c C n) (hg : GlR c gl) (hr : RaiseOk c n RF) : ∀ k sc ev st x, KOk ev sc → ev.scope.kind = .function → trS gl RF k sc st = some x → S1 c C n ev st x := by
  intro k
  induction k with
  | zero => intro sc ev st x ko hk h; exact noS h
  | succ k ih =>
    intro sc ev st x ko hkf h
    have iE := tr_all co sn hg k
    have SSL : ∀ {b : List Stmt} {xs : List XS}, mapO (trS gl RF k sc) b = some xs → SS c C n ev b xs := fun hm => ss_list ((mapO_F2 hm).imp fun a b hab => ih _ _ _ _ ko hkf hab)
    cases st with
    | Return e pos =>
      cases e with
      | none => obtain rfl := Option.some.inj h; exact s_ret0
      | some e =>
        obtain ⟨y, hy, h⟩ := ob_inv (a := trE gl k sc e) h
        obtain rfl := Option.some.inj h
        exact s_ret (iE _ _ _ _ ko hy).se
    | Assign ts e pos =>
      rcases ts with _ | ⟨a, _ | _⟩
      · exact noS h
      · obtain ⟨y, hy, h⟩ := ob_inv (a := trE gl k sc e) h
        refine ok_asg co iE (fun hz => ?_) ko hy h
        cases k with
        | zero => exact noS hz
        | succ k => exact comp_of (tr_all co sn hg k) ko hz
      · exact noS h
    | AugAssign a op e pos =>
      obtain ⟨y, hy, h⟩ := ob_inv (a := trE gl k sc e) h
      exact ok_aug iE ko hy h
    | If t a b pos =>
      obtain ⟨y, hy, h⟩ := ob_inv (a := trE gl k sc t) h
      obtain ⟨a', ha, h⟩ := ob_inv h
      obtain ⟨b', hb, h⟩ := ob_inv h
      obtain rfl := Option.some.inj h
      exact s_if (iE _ _ _ _ ko hy).st (SSL ha) (SSL hb)
    | For a it b els pos =>
      obtain ⟨y, hy, h⟩ := ob_inv (a := trE gl k sc it) h
      obtain ⟨b', hb, h⟩ := ob_inv h
      cases els with
      | nil => exact ok_for iE ko hy (SSL hb) h
      | cons _ _ => exact noS h
    | While t b els pos =>
      obtain ⟨y, hy, h⟩ := ob_inv (a := trE gl k sc t) h
      obtain ⟨b', hb, h⟩ := ob_inv h
      obtain ⟨rfl, rfl⟩ := og_inv h
      exact s_while (iE _ _ _ _ ko hy).st (SSL hb)
    | Raise e f pos => exact ok_raise hr ko h
    | Expr e pos =>
      obtain ⟨y, hy, h⟩ := ob_inv (a := trE gl k sc e) h
      obtain ⟨hc, rfl⟩ := og_inv h
      exact s_expr (iE _ _ _ _ ko hy).se (by unfold interactive; rw [hkf]; rfl) (swaps_no hc k hy)
    | _ => exact noS h
end
end
section
open PySem PySem.W PyProof.Rows PySem.Calls
section
variable {c : Cx} {C : Ctr} {n : Nat} {gl : Str → Option GV} {RF : Str} {T : Tab} {Sp : Ctr → Ctr}

theorem cellsFrom_acc {x : Str} : ∀ (names : List (Str × NameKind)) (k : Nat) (acc : List (Str × Addr)), (acc.lookup x).isSome = true → ((cellsFrom k names acc).lookup x).isSome = true
  | [], k, acc, h => h
  | (nm, kd) :: r, k, acc, h => by
    unfold cellsFrom
    split
    · refine cellsFrom_acc r _ _ ?_
      rw [List.lookup_cons]
      split
      · rfl
      · exact h
    · exact cellsFrom_acc r _ _ h
theorem cellsFrom_some {x : Str} : ∀ (names : List (Str × NameKind)) (k : Nat) (acc : List (Str × Addr)), (x, NameKind.cell) ∈ names → ((cellsFrom k names acc).lookup x).isSome = true
  | (nm, kd) :: r, k, acc, h => by
    unfold cellsFrom
    rcases List.mem_cons.mp h with e | h
    · cases e
      rw [if_pos (by decide)]
      refine cellsFrom_acc r _ _ ?_
      simp
    · split
      · exact cellsFrom_some r _ _ h
      · exact cellsFrom_some r _ _ h
theorem mem_of_lookup {x : Str} {k : NameKind} : ∀ {names : List (Str × NameKind)}, names.lookup x = some k → (x, k) ∈ names
  | (nm, kd) :: r, h => by
    rw [List.lookup_cons] at h
    split at h
    · rename_i e
      cases h
      have : x = nm := by simpa using e
      subst this
      exact .head _
    · exact .tail _ (mem_of_lookup h)
theorem kok_env {qual : Str} {scope : Scope} {L f : Addr} {cdv : Value} (hk : scope.kind = .function) : KOk (envOfC qual scope L f cdv) scope.names :=
  ⟨hk, fun _ h => h, fun _ h => h, fun x h => ⟨h, cellsFrom_some _ _ _ (mem_of_lookup h)⟩⟩

noncomputable def TabOk (c : Cx) (T : Tab) (gl : Str → Option GV) (RF : Str) : Prop := ∀ a ps b, T a = some (ps, b) → ∃ name qual params body scope cdv pss k, FnOk c a name qual params body scope cdv pss ∧ ps = pss.map cp ∧ mapO (trS gl RF k scope.names) body = some b
noncomputable def SpOk (c : Cx) (Sp : Ctr → Ctr) : Prop := ∀ C n, SndC c C n → SndC c (Sp C) (n + 1)

theorem fn_keep {f : Addr} {name qual : Str} {params : Arguments} {body : List Stmt} {scope : Scope} {cdv : Value} {ps : List Str} (F : FnOk c f name qual params body scope cdv ps) : keepIn c.K (.ref f) = true := by
  obtain ⟨oc, od, dV, kV, doc, pm, an, ct, osl, ho, _⟩ := F.ho
  unfold keepIn
  dsimp only
  rw [ho]

theorem cn_ok (co : CxOk c) (hg : GlR c gl) (hr : ∀ n, RaiseOk c n RF) (hT : TabOk c T gl RF) (hS : SpOk c Sp) : ∀ n, SndC c (Cn T Sp n) n
  | 0 => ⟨fun _ _ _ _ _ _ _ _ _ _ _ _ _ _ _ _ h => by rw [Cn_zero] at h; exact h.elim, fun _ _ _ _ _ h => by rw [Cn_zero] at h; exact h.elim⟩
  | n + 1 => by
    have ih := cn_ok co hg hr hT hS n
    have sp := hS _ _ ih
    refine ⟨fun fb W σ s fn f args vs ex Q Qc Ec fo R hf V E hq hx => ?_, fun a args σ ex Q E => ?_⟩
    · cases hf with
      | @top a =>
        rw [Cn_top] at E
        cases hta : T a with
        | none => rw [hta] at E; exact sp.code _ _ _ _ _ _ _ _ _ _ _ _ fo R .top V E hq hx
        | some p =>
          obtain ⟨ps, b⟩ := p
          rw [hta] at E
          obtain ⟨name, qual, params, body, scope, cdv, pss, k, F, rfl, hb⟩ := hT _ _ _ hta
          refine snd_fn F (fun L => ?_) fo R V E hq hx
          exact ss_list ((mapO_F2 hb).imp fun x y hxy => ts_ok co ih hg (hr n) k _ _ _ _ (kok_env F.hk) F.hk hxy)
      | clo hv =>
        rw [Cn_clo] at E
        exact sp.code _ _ _ _ _ _ _ _ _ _ _ _ fo R (.clo hv) V E hq hx
    · rw [Cn_top] at E
      cases hta : T a with
      | none => rw [hta] at E; exact sp.keep _ _ _ _ _ E
      | some p =>
        obtain ⟨ps, b⟩ := p
        obtain ⟨name, qual, params, body, scope, cdv, pss, k, F, rfl, hb⟩ := hT _ _ _ hta
        exact fn_keep F
end
end
section
open PySem
open PySem.Sem (wp)
section
variable {M : Model} {A : Around} {E : Value → Shared → Prop} {env : Env} {nm q : Str} {C N : Addr} {bs bm : List Value} {hdct : Bool} {sn : List Str} {sub : List Value} {ab : Bool} {col : Option Bool} {dd : Option Addr} {k0 k1 k2 k3 k5 : Option Value} {newId : String} {s : Shared} {x : Sem Value} {Q : Flow → Shared → Prop}
theorem raise_made (hbase : bm.contains (.type "BaseException") = true) (hh : A.handled = none)
    (h : wpAny M A x (fun v s₁ => ∃ e t d' sl, v = .ref e ∧ s₁.heap.get? C = some (excClassObj nm q C N bs bm hdct sn sub ab col dd k0 k1 k2 k3 k5 newId) ∧
      s₁.heap.get? e = some { cls := .ref C, dict := d', data := .fields #[.ref t, .none, .none, .none, .bool false, .none], slots := sl } ∧ E (.ref e) s₁) E s) : wpAny M A (raiseStmt env (some x) none) Q E s := by
  have hcB : (Value.ref C :: bm).contains (.type "BaseException") = true := by rw [List.contains_cons, hbase, Bool.or_true]
  unfold raiseStmt
  refine wpAny_bind (wpAny_mono h (fun v s₁ h₁ => ?_) fun _ _ x => x)
  obtain ⟨e, t, d', sl, rfl, hC, he, hE⟩ := h₁
  obtain ⟨hp, g, d, tk, os⟩ := s₁
  repeat (first | with_reducible refine wpAny_loadPart_at he ?_ | with_reducible refine wpAny_loadPart_at hC ?_ | (with_reducible refine wpAny_isSubtype_exc hC ?_; rw [hcB]) | wp_step)
  exact wpAny_raiseNew_none hh hE
end

section
variable {prog : Program} {w : World} {A : Around} {R : Result → Shared → Prop} {E : Value → Shared → Prop} {h : Heap} {g : Array GenState} {d : Drawn} {t : Nat} {os : OsState}
variable {nm q : Str} {C N : Addr} {bs bm : List Value} {hdct : Bool} {sn : List Str} {sub : List Value} {ab : Bool} {col : Option Bool} {dd : Option Addr} {k0 k1 k2 k3 k5 : Option Value} {B newId initId : String} {bmB : List Value}
/-- a new one of a class whose bases are of the text -/
theorem new_own (F : ExcBaseFacts B newId initId bmB) (hB : bm.contains (.type B) = true) (hA : bm.contains (.type "AttributeError") = false) (hN : bm.contains (.type "NameError") = false) {rest : List Value} (hC : h.get? C = some (excClassObj nm q C N bs bm hdct sn sub ab col dd k0 k1 k2 k3 k5 newId))
    (hq : R (.ok (.ret (.ref (h.objs.size + 1)))) ⟨(h.push { cls := .type "tuple", data := .seq rest.toArray }).push
      { cls := .ref C, data := .fields #[.ref h.objs.size, .none, .none, .none, .bool false, .none] }, g, d, t, os⟩) (hrest : rest.length ≤ sizeLine) :
    codeAny (model prog w) A (.builtin newId ⟨.ref C :: rest, []⟩) R ⟨h, g, d, t, os⟩ := by
  have hends := F.ends
  have hcB : (Value.ref C :: bm).contains (.type B) = true := by rw [List.contains_cons, hB, Bool.or_true]
  have hcA : (Value.ref C :: bm).contains (.type "AttributeError") = false := by rw [List.contains_cons, hA]; rfl
  have hcN : (Value.ref C :: bm).contains (.type "NameError") = false := by rw [List.contains_cons, hN]; rfl
  refine codeAny_builtinAt F.entry ?_
  unfold Builtin.«BaseException.__new__»
  refine wpAt_bind ?_
  show wpAt _ _ _ (stack >>= _) _ _ _
  refine wpAt_bind (wpAt_stack fun p below => wpAt_of_wpAny ?_)
  wp_walk
  refine wpAt_of_wpAny ?_
  rw [F.owner]
  repeat (first | with_reducible refine wpAny_madeHere_exc F.canon hC ?_ | with_reducible refine wpAny_loadPart_at hC ?_ | (with_reducible refine wpAny_isSubtype_exc hC ?_; first | rw [hcB] | rw [hcA] | rw [hcN]) | wp_step)
  show R _ _
  rw [Heap.size_push]
  exact hq

/-- a call of such a class: its own __init__ stands in a base -/
theorem call_own (F : ExcBaseFacts B newId initId bmB) (hB : bm.contains (.type B) = true) (hA : bm.contains (.type "AttributeError") = false) (hN : bm.contains (.type "NameError") = false) {rest : List Value} {fI : Addr} {oI : Obj} {Q : Value → Shared → Prop}
    (hC : h.get? C = some (excClassObj nm q C N bs bm hdct sn sub ab col dd k0 k1 k2 k3 k5 newId))
    (hinit : ∀ (h' : Heap) (A' : Around) (Q' : Option Value → Shared → Prop) (E' : Value → Shared → Prop), (∀ b o, h.get? b = some o → h'.get? b = some o) → Q' (some (.ref fI)) ⟨h', g, d, t, os⟩ → wpAny (model prog w) A' (typeLookup (.ref C) "__init__") Q' E' ⟨h', g, d, t, os⟩)
    (hfI : h.get? fI = some oI) (hfc : oI.cls = .type "function")
    (hq : ∀ h' e, Heap.MadeExcOf h h' e (.ref C) rest →
      wpAny (model prog w) (A.under (.builtin "type.__call__" ⟨.ref C :: rest, []⟩)) (call (.ref fI) (.ref e :: rest)) (fun r s' => r = .none ∧ Q (.ref e) s') E ⟨h', g, d, t, os⟩) (hrest : rest.length ≤ sizeLine) :
    wpAny (model prog w) A (call (.ref C) rest) Q E ⟨h, g, d, t, os⟩ := by
  have f1 := tc_lookup
  have f2 := tc_bind (.ref C)
  have hT : (⟨h, g, d, t, os⟩ : Shared).TypeIs (.ref C) "type" := ⟨_, hC, rfl⟩
  refine wpAny_call (codeAny_of_tree ?_)
  show wpAny _ _ (callAny (.ref C) _) _ _ _
  repeat (any_goals (first | assumption | with_reducible refine wpAny_loadPart_at hC ?_ | wp_step))
  refine ⟨rfl, ?_⟩
  refine codeAny_call_builtin_at (Code.quiet_builtin _ (by decide +kernel)) entry_typeCall (wpAny_check_type_call_sub hC ?_)
  repeat (first | with_reducible refine wpAny_loadPart_at hC ?_ | with_reducible refine wpAny_madeBy_exc hC ?_ | wp_step)
  refine codeAny_call_builtin_code (Code.quiet_builtin _ F.quiet) (wpAny_check_new_subU F hB (OwnTail.base) hC ?_)
  refine new_own F hB hA hN hC ?_ hrest
  show wpAny _ _ _ _ _ _
  have hC₁ := Heap.get?_push_of_some { cls := .ref C, data := .fields #[.ref h.objs.size, .none, .none, .none, .bool false, .none] }
    (Heap.get?_push_of_some { cls := .type "tuple", data := .seq rest.toArray } hC)
  have hfI₁ := Heap.get?_push_of_some { cls := .ref C, data := .fields #[.ref h.objs.size, .none, .none, .none, .bool false, .none] }
    (Heap.get?_push_of_some { cls := .type "tuple", data := .seq rest.toArray } hfI)
  have hget : ((h.push { cls := .type "tuple", data := .seq rest.toArray }).push
      { cls := .ref C, data := .fields #[.ref h.objs.size, .none, .none, .none, .bool false, .none] }).get? (h.objs.size + 1) = some
      { cls := .ref C, data := .fields #[.ref h.objs.size, .none, .none, .none, .bool false, .none] } := by heap_get
  have hcC : (Value.ref C :: bm).contains (.ref C) = true := by simp
  unfold isInstance
  repeat (first | with_reducible refine wpAny_loadPart_at hget ?_ | (with_reducible refine wpAny_isSubtype_exc hC₁ ?_; rw [hcC]) | wp_step)
  try (show wpAny _ _ (isSubtype (.ref C) (.ref C)) _ _ _; refine wpAny_isSubtype_exc hC₁ ?_; rw [hcC])
  repeat wp_step
  show wpAny _ _ (typeLookup (.ref C) _) _ _ _
  refine hinit _ _ _ _ (fun b o e => Heap.get?_push_of_some _ (Heap.get?_push_of_some _ e)) ?_
  refine wpAny_holding (wpAny_bind ?_)
  unfold bindSpecial
  refine wpAny_bind (wpAny_typeOf (T := "function") ⟨_, hfI₁, hfc⟩ ?_)
  rw [if_pos (by decide)]
  refine wpAny_pure (wpAny_bind (wpAny_mono (hq _ (h.objs.size + 1) ⟨fun b o hb => Heap.get?_push_of_some _ (Heap.get?_push_of_some _ hb), Heap.get?_none_of_le (Nat.le_succ _), h.objs.size, hget, Heap.get?_none_of_le (Nat.le_refl _), ?_⟩) (fun r s' hr => ?_) fun _ _ x => x))
  · exact Heap.get?_push_of_some _ (Heap.get?_push_at rfl rfl)
  · obtain ⟨rfl, hQ⟩ := hr
    wp_walk
    exact hQ
end
end
section
open PySem PySem.W PyProof.Rows PySem.Calls
section
variable {c : Cx} {C : Ctr} {n : Nat} {fb : FB} {W W' : GW} {σ : St} {s : Shared}

variable {p q : Addr × Obj}
theorem led2 {x : Addr × Obj} {p q : Addr × Obj} {Hid : Led} : x ∈ led W (q :: p :: Hid) ↔ x = q ∨ x = p ∨ x ∈ led W Hid := by
  simp only [led, List.mem_append, List.mem_cons]
  constructor
  · rintro (h | (h | h | h) | h) <;> simp [*]
  · rintro (h | h | h | h | h) <;> simp [*]
theorem RelF.ext2 {p q : Addr × Obj} {p' q' : Obj} {h' : Heap} {tk : Nat} (R : RelF c ((fb.hid p).hid q) W σ s) (hk : ∀ b o, b ≠ q.1 → b ≠ p.1 → s.heap.get? b = some o → h'.get? b = some o) (hp : h'.get? p.1 = some p') (hq : h'.get? q.1 = some q') :
    RelF c ((fb.hid (p.1, p')).hid (q.1, q')) W σ { s with heap := h', toks := tk } := by
  have mq := R.N q (led2.mpr (.inl rfl))
  have mp := R.N p (led2.mpr (.inr (.inl rfl)))
  have nd0 := R.nd
  have perm : ∀ a b : Addr × Obj, (led W (b :: a :: fb.Hid)).Perm (b :: a :: led W fb.Hid) := fun a b => by
    simp only [led]
    exact (List.perm_middle).trans ((List.Perm.cons _ List.perm_middle))
  have nd1 : ((q :: p :: led W fb.Hid).map (·.1)).Nodup := ((perm p q).map _).nodup_iff.mp nd0
  rw [List.map_cons, List.map_cons, List.nodup_cons, List.nodup_cons] at nd1
  have other : ∀ x ∈ led W fb.Hid, x.1 ≠ q.1 ∧ x.1 ≠ p.1 := fun x hx =>
    ⟨fun e => nd1.1 (.tail _ (List.mem_map.mpr ⟨x, hx, e⟩)), fun e => nd1.2.1 (List.mem_map.mpr ⟨x, hx, e⟩)⟩
  refine { nd := ?_, hr := R.hr, g := R.g, cm := R.cm, ns := R.ns, F := ?_, N := ?_, sm := ⟨R.sm.1, R.sm.2, R.sm.3⟩ }
  · show ((led W ((q.1, q') :: (p.1, p') :: fb.Hid)).map (·.1)).Nodup
    rw [((perm (p.1, p') (q.1, q')).map _).nodup_iff, List.map_cons, List.map_cons, List.nodup_cons, List.nodup_cons]
    exact nd1
  · obtain ⟨⟨oL, a1, a2, hoL, a3⟩, hkk, ha⟩ := R.F
    exact ⟨⟨oL, a1, a2, hk _ _ (Ne.symm mq.2.1) (Ne.symm mp.2.1) hoL, a3⟩, fun b o e => hk _ _ (fun z => by subst z; exact Option.some_ne_none _ (e.symm.trans mq.2.2)) (fun z => by subst z; exact Option.some_ne_none _ (e.symm.trans mp.2.2)) (hkk b o e), ha⟩
  · intro x hx
    rcases led2.mp hx with rfl | rfl | h
    · exact ⟨hq, mq.2⟩
    · exact ⟨hp, mp.2⟩
    · have m := R.N x (led2.mpr (.inr (.inr h)))
      exact ⟨hk _ _ (other x h).1 (other x h).2 m.1, m.2⟩
theorem RelF.two (R : RelF c ((fb.hid p).hid q) W σ s) : RelF c fb W σ s := RelF.unhid (fb := fb) (RelF.unhid (fb := fb.hid p) R)
/-- the body of a loop over enumerate -/
noncomputable def enmB (C : Ctr) (ex : St → Prop) (R : KE) (k : Nat) (xi xv : List Nat) (y : List XS) : AV → Loc → St → (Loc → St → Prop) → Prop := fun v ρ₁ σ₁ K => match v with
  | .tup [i, u] => evSs C ex R k y ((xv, u) :: (xi, i) :: ρ₁) σ₁ K
  | _ => False
noncomputable def loopG (C : Ctr) (ex : St → Prop) (R : KE) (k : Nat) (li lv : List Nat) (y : List XS) (ρ : Loc) (N : Loc → St → Prop) : KE := fun v σ' => match v with | .lst l => loopL (enmB C ex R k li lv y) (enmL l) ρ σ' N | _ => False
theorem enm_get {l : List AV} {i : Nat} {a : AV} (h : l[i]? = some a) : (enmL l)[i]? = some (.tup [.int (Int.ofNat i), a]) := by
  unfold enmL
  rw [List.getElem?_mapIdx, h]; rfl
theorem enm_none {l : List AV} {i : Nat} (h : l[i]? = none) : (enmL l)[i]? = none := by
  unfold enmL
  rw [List.getElem?_mapIdx, h]; rfl
noncomputable def enO (it i : Nat) (old : Value) : Obj := { cls := .type "enumerate", dict := none, data := .fields #[.none, .bool false, .ref it, rawInt i, .none, old], slots := #[] }
theorem loopG_inv {C : Ctr} {ex : St → Prop} {R : KE} {k : Nat} {li lv : List Nat} {y : List XS} {ρ : Loc} {N : Loc → St → Prop} {v : AV} {σ : St} (h : loopG C ex R k li lv y ρ N v σ) : ∃ l, v = .lst l ∧ loopL (enmB C ex R k li lv y) (enmL l) ρ σ N := by
  cases v with
  | lst l => exact ⟨l, rfl, h⟩
  | _ => exact h.elim
noncomputable def hidE (I it : Addr) (fb : FB) (i : Nat) (q : Obj × Value) : FB := (fb.hid (it, q.1)).hid (I, enO it i q.2)
theorem enmL_len (l : List AV) : (enmL l).length = l.length := by unfold enmL; rw [List.length_mapIdx]
theorem snd_eturns {fb : FB} {xi xv : Str} {pi pv pt : Pos} {kk : Nat} {b : List Stmt} {y : List XS} {l : List AV} {I it ax : Addr} {k : Nat} {ρ : Loc} {W : GW} {σ : St} {s : Shared} {oi : Obj} {ex : St → Prop} {R : KE} {N : Loc → St → Prop} {Qc : Flow → Shared → Prop} {Ec : Value → Shared → Prop}
    (h : SS c C n fb.env b y) (f : FB.ok fb c n) (hki : fb.env.kindOf xi = some .local) (hkv : fb.env.kindOf xv = some .local) (hne : I ≠ it) (hoi : oi.cls = .type "list_iterator" ∧ oi.data = .fields #[.ref ax, .int ((0 : Nat) : Int) 0])
    {ws : List Value} (hs : W.Seq "list" ax ws) (hv : VRs c.CR W l ws) (Rl : RelF c ((fb.hid (it, oi)).hid (I, enO it 0 .none)) W σ s) (L : LocF c fb fb.env W ρ)
    (E : loopL (enmB C ex R k (cp xi) (cp xv) y) (enmL l) ρ σ N) (hn : NPost c fb W N (Qc .next)) (hr : RPost c fb W R (fun v => Qc (.ret v))) (hx : XPost c fb W ex Ec) :
    codeAny (model c.prog c.w) fb.A (Code.forLoop (.Tuple [.Name xi pi, .Name xv pv] kk pt) (.ref I) b [] fb.env) (fun r s' => match r with | .ok f => Qc f s' | .error e => cameBackBy (model c.prog c.w) fb.A fb.env Ec e s') s := by
  refine codeAny_forLoop_any (TInv c fb W (enmL l) (hidE I it) (fun i q => q.1.cls = .type "list_iterator" ∧ q.1.data = .fields #[.ref ax, .int (i : Int) 0]) (fun _ => True) (enmB C ex R k (cp xi) (cp xv) y) N) ?_ (enmL l).length ⟨0, ρ, σ, W, fb.m, (oi, .none), rfl, Nat.zero_le _, hoi, trivial, .refl _, Rl, L, E⟩
  rintro m s ⟨i, ρ, σ, W', mm, ⟨oi, old⟩, rfl, hi, hoi, _, le, Rl, L, E⟩
  replace Rl : RelF c (((fb.setm mm).hid (it, oi)).hid (I, enO it i old)) W' σ s := Rl
  dsimp only at hoi
  have hL : s.heap.IsList ax ws.toArray := (Rl.two).isList f.stays (le.seq hs)
  have hE : IsEnum s.heap I it i old := (Rl.N _ (led2.mpr (.inl rfl))).1
  have mit := Rl.N _ (led2.mpr (.inr (.inl rfl)))
  have hI : s.heap.IsListIter it ax i := ⟨oi, mit.1, hoi.1, hoi.2⟩
  have hvl := hv.length
  cases hq : l[i]? with
  | none =>
    have hge := List.getElem?_eq_none_iff.mp hq
    refine wpAny_pyNext_enum_end f.hd hE hI hL (by simp; omega) fun h' hs' => ?_
    refine wpAny_execs_nil (hn _ _ _ _ mm ?_ le L (loopL_end (enm_none hq) E))
    exact RelF.gone (fb := fb.setm mm) (tk := s.toks) (RelF.unhid (fb := (fb.setm mm).hid (it, oi)) Rl) hs'
  | some a =>
    have hlt := (List.getElem?_eq_some_iff.mp hq).1
    obtain ⟨v, g1, g2⟩ := hv.get hq
    have V := g2.mono Rl.cm le
    refine wpAny_pyNext_enum_item hE hI hL (by simpa using g1) hne fun h₁ he₁ hi₁ ht₁ hz₁ hk₁ => ?_
    refine wpAny_letOwnedTupleGo_enum he₁ fun h₂ he₂ hs₂ => ?_
    replace hs₂ : Heap.SameBut I h₁ h₂ := hs₂
    have hIlt : I < s.heap.objs.size := Heap.lt_size hE
    have hilt : it < s.heap.objs.size := Heap.lt_size mit.1
    have ht₂ : IsTup h₂ s.heap.objs.size #[.int i s.toks, v] := ⟨_, (hs₂.2 _ (Nat.ne_of_gt hIlt)).trans ht₁, rfl, _, rfl⟩
    have hz₂ : h₂.objs.size = s.heap.objs.size + 1 := hs₂.1.trans hz₁
    have e1 : ((i + 1 : Nat) : Int) = (i : Int) + 1 := by omega
    refine assign_Tuple_tuple f.hd ht₂ rfl rfl fun h₃ hx₃ => ?_
    replace hx₃ : Heap.ExtBut h₂.objs.size h₂ h₃ := hx₃
    have up : ∀ b o, b < s.heap.objs.size → h₂.get? b = some o → h₃.get? b = some o := fun b o hb x => hx₃ b o (by rw [hz₂]; exact Nat.ne_of_lt (Nat.lt_succ_of_lt hb)) x
    obtain ⟨oi', a1, a2, a3⟩ := hi₁
    have oi₂ : h₂.get? it = some oi' := (hs₂.2 it (Ne.symm hne)).trans a1
    have R₃ : RelF c (((fb.setm mm).hid (it, oi')).hid (I, enO it (i + 1 : Nat) v)) W' σ { s with heap := h₃, toks := s.toks + 1 } :=
      RelF.ext2 (fb := fb.setm mm) (tk := s.toks + 1) Rl (fun b o n1 n2 x => up b o (Heap.lt_size x) ((hs₂.2 b n1).trans (hk₁ b o n1 n2 x))) (up _ _ hilt oi₂) (up _ _ hIlt (by rw [he₂]; unfold enO; rw [e1]))
    show wpAny _ _ (assignInOrder [assign (.Name xi pi) fb.env, assign (.Name xv pv) fb.env] [.int i s.toks, v]) _ _ _
    have hb : bindN [cp xi, cp xv] [.int (Int.ofNat i), a] ρ = some ((cp xv, a) :: (cp xi, .int (Int.ofNat i)) :: ρ) := rfl
    refine snd_binds (nms := [(xi, pi), (xv, pv)]) (fb := ((fb.setm mm).hid (it, oi')).hid (I, enO it (i + 1 : Nat) v)) (((f.set mm).hid _).hid _) R₃ L (.cons .int (.cons V .nil)) (by simp [hki, hkv, FB.hid, FB.setm]) hb fun s₂ m₂ R₂ L₂ => ?_
    have E' := loopL_drop (enm_get hq) E
    refine h ((((fb.setm mm).hid (it, oi')).hid (I, enO it (i + 1 : Nat) v)).setm m₂) k _ W' σ s₂ ex R _ _ _ ((((f.set mm).hid _).hid _).set m₂) rfl R₂ L₂ E' (fun ρ' σ' s₃ W₃ m₃ R₄ le₃ L₃ E₃ => ?_) (fun v₃ av₃ σ₃ s₃ W₃ m₃ R₄ le₃ V₃ q₃ => ?_) ?_
    · have hlt' : i < (enmL l).length := by rw [enmL_len]; exact hlt
      exact ⟨_, turn_lt hlt', i + 1, ρ', σ', W₃, m₃, (oi', v), rfl, hlt', ⟨a2, a3⟩, trivial, le.trans le₃, R₄, L₃, E₃⟩
    · exact hr _ _ _ _ _ m₃ (RelF.two (fb := fb.setm m₃) R₄) (le.trans le₃) V₃ q₃
    · exact (((hx.le le).back f).hid).hid
end
end
section
open PySem PySem.W PyProof.Rows PySem.Calls
section
variable {c : Cx} {C : Ctr} {n : Nat} {fb : FB} {W W' : GW} {σ : St} {s : Shared}
/-- two new hidden objects -/
theorem RelF.hid2 (R : RelF c fb W σ s) {p q : Addr × Obj} {h' : Heap} (hk : ∀ b o, s.heap.get? b = some o → h'.get? b = some o) (hp : h'.get? p.1 = some p.2) (hq : h'.get? q.1 = some q.2) (ep : p.1 = s.heap.objs.size) (eq : q.1 = s.heap.objs.size + 1) :
    RelF c ((fb.hid p).hid q) W σ { s with heap := h' } := by
  have F' := R.F.keeps hk
  have new : ∀ x : Addr, s.heap.objs.size ≤ x → x ≠ fb.L ∧ fb.h₀.get? x = none := fun x hx => by
    refine ⟨Nat.ne_of_gt (Nat.lt_of_lt_of_le R.F.ns.lt hx), ?_⟩
    cases hq : fb.h₀.get? x with
    | none => rfl
    | some o' => exact absurd (Heap.lt_size (R.F.keep _ _ hq)) (Nat.not_lt.mpr hx)
  have R1 : RelF c (fb.hid p) W σ { s with heap := h' } := R.tohid (tk := s.toks) F' (fun x hx => by
    rcases List.mem_cons.mp hx with rfl | h
    · exact ⟨hp, new _ (Nat.le_of_eq ep.symm)⟩
    · exact R.N.grown hk _ h) fun x hx => by rw [ep]; exact R.fresh x hx
  refine R1.tohid (fb := fb.hid p) (tk := s.toks) F' (fun x hx => ?_) fun x hx => ?_
  · rcases List.mem_cons.mp hx with rfl | h
    · exact ⟨hq, new _ (Nat.le_of_lt (Nat.lt_of_lt_of_eq (Nat.lt_succ_self _) eq.symm))⟩
    · exact R1.N _ h
  · rcases List.mem_cons.mp (hid_perm.mem_iff.mp hx) with rfl | h
    · rw [ep, eq]; exact Nat.ne_of_lt (Nat.lt_succ_self _)
    · rw [eq]; exact Nat.ne_of_lt (Nat.lt_succ_of_lt (R.below _ h))
theorem snd_forE {li lv : List Nat} {it : Expr} {x : X} {xi xv : Str} {pi pv pt pe pc pos : Pos} {kk : Nat} {b : List Stmt} {y : List XS} {k : Nat} {ρ : Loc} {ex : St → Prop} {R : KE} {N : Loc → St → Prop} {Qc : Flow → Shared → Prop} {Ec : Value → Shared → Prop}
    (h0 : SE c C n fb.env it x) (hst : starEach [it] fb.env = [(false, eval it fb.env)]) (h : SS c C n fb.env b y) (hki : fb.env.kindOf xi = some .local) (hkv : fb.env.kindOf xv = some .local) (hke : fb.env.kindOf ("enumerate" : Str) = some .globalImplicit)
    (hne : nsIn c.K mainGlobals ("enumerate" : Str) = some none) (f : FB.ok fb c n) (Rl : RelF c fb W σ s) (L : LocF c fb fb.env W ρ)
    (ei : cp xi = li) (ev : cp xv = lv) (E : evE C ex k ρ x σ (loopG C ex R k li lv y ρ N)) (hn : NPost c fb W N (Qc .next)) (hr : RPost c fb W R (fun v => Qc (.ret v))) (hx : XPost c fb W ex Ec) :
    wpAny (model c.prog c.w) fb.A (exec (.For (.Tuple [.Name xi pi, .Name xv pv] kk pt) (.Call (.Name "enumerate" pe) [it] [] pc) b [] pos) fb.env) Qc Ec s := by
  subst ei ev
  refine wpAny_For (Call_ (bi_read (b := .enumerate) f.toFm Rl f.hk f.gl f.bi hke hne ?_))
  refine snd_callWith (P := fun _ => True) (k := k) (ρ := ρ) (ex := ex) (es := [it]) (xs := [x]) (Q := fun vs σ' => oneB (fun v => loopG C ex R k (cp xi) (cp xv) y ρ N v σ') vs) f f.ev Rl L (.cons ⟨h0, hst⟩ .nil) ?_ (fun h _ => ⟨.machine, .inr (.inl rfl), .now⟩) (fun vs avs σ' s' W' R' le V q => ⟨trivial, ?_⟩) hx.px
  · exact E
  · obtain ⟨v0, rfl, q⟩ := oneB_inv q
    obtain ⟨l, rfl, q⟩ := loopG_inv q
    rcases V with _ | ⟨V, _ | _⟩
    obtain ⟨ax, ws, rfl, g1, g2⟩ := V.lst_inv
    refine call_enumerate_list (R'.isList f.stays g1) fun h' he hi hz hk => ?_
    refine wpAny_pyIter_enum he ?_
    obtain ⟨oi, i1, i2, i3⟩ := hi
    refine snd_eturns (ax := ax) (it := s'.heap.objs.size) (oi := oi) h f hki hkv (Nat.succ_ne_self _) ⟨i2, i3⟩ g1 g2 (R'.hid2 hk i1 he rfl rfl) (L.le R'.cm le) q (hn.le le) (hr.le le) (hx.le le)
end
end
section
open PySem PySem.W PyProof.Rows PySem.Calls
section
variable {c : Cx} {C : Ctr} {n : Nat} {fb : FB} {W W' : GW} {σ : St} {s : Shared}
theorem led1 {x : Addr × Obj} {q : Addr × Obj} {Hid : Led} : x ∈ led W (q :: Hid) ↔ x = q ∨ x ∈ led W Hid := by
  simp only [led, List.mem_append, List.mem_cons]
  constructor
  · rintro (h | (h | h) | h) <;> simp [*]
  · rintro (h | h | h | h) <;> simp [*]
/-- the hidden object has changed, others have come -/
theorem RelF.ext1 {q : Addr × Obj} {q' : Obj} {h' : Heap} {tk : Nat} (R : RelF c (fb.hid q) W σ s) (hk : ∀ b o, b ≠ q.1 → s.heap.get? b = some o → h'.get? b = some o) (hq : h'.get? q.1 = some q') :
    RelF c (fb.hid (q.1, q')) W σ { s with heap := h', toks := tk } := by
  have mq := R.N q (led1.mpr (.inl rfl))
  have other := R.toLg.notIn
  refine { nd := ?_, hr := R.hr, g := R.g, cm := R.cm, ns := R.ns, F := ?_, N := ?_, sm := ⟨R.sm.1, R.sm.2, R.sm.3⟩ }
  · have nd0 := R.nd
    show ((led W ((q.1, q') :: fb.Hid)).map (·.1)).Nodup
    rw [((hid_perm (W := W)).map _).nodup_iff, List.map_cons]
    have nd1 : ((q :: led W fb.Hid).map (·.1)).Nodup := ((hid_perm (W := W)).map _).nodup_iff.mp nd0
    exact nd1
  · obtain ⟨⟨oL, a1, a2, hoL, a3⟩, hkk, ha⟩ := R.F
    exact ⟨⟨oL, a1, a2, hk _ _ (Ne.symm mq.2.1) hoL, a3⟩, fun b o e => hk _ _ (fun z => by subst z; exact Option.some_ne_none _ (e.symm.trans mq.2.2)) (hkk b o e), ha⟩
  · intro x hx
    rcases led1.mp hx with rfl | h
    · exact ⟨hq, mq.2⟩
    · have m := R.N x (led1.mpr (.inr h))
      exact ⟨hk _ _ (other x h) m.1, m.2⟩
end
section
variable {M : Model} {A : Around} {E : Value → Shared → Prop} {h : Heap} {g : Array GenState} {d : Drawn} {t : Nat} {os : OsState}
variable {nm q : Str} {C N : Addr} {bs bm : List Value} {hdct : Bool} {sn : List Str} {sub : List Value} {ab : Bool} {col : Option Bool} {dd : Option Addr} {k0 k1 k2 k3 k5 : Option Value} {B nid initId newId : String} {bmB : List Value}
theorem check_init_own (F : ExcBaseFacts B nid initId bmB) (hB : bm.contains (.type B) = true) {M : Model} {e : Addr} {oe : Obj} {rest : List Value} {Q : Unit → Shared → Prop}
    (hC : h.get? C = some (excClassObj nm q C N bs bm hdct sn sub ab col dd k0 k1 k2 k3 k5 newId)) (he : h.get? e = some oe) (hcls : oe.cls = .ref C) (hq : Q () ⟨h, g, d, t, os⟩) :
    wpAny M A (checkBuiltinCall initId ⟨.ref e :: rest, []⟩) Q E ⟨h, g, d, t, os⟩ := by
  have hcB : (Value.ref C :: bm).contains (.type B) = true := by rw [List.contains_cons, hB, Bool.or_true]
  have hshort := F.noStar
  simp only [checkBuiltinCall, F.initKind, F.initSplit, F.initRow]
  repeat (first | (with_reducible refine wpAny_loadPart_at he ?_; rw [hcls]) | with_reducible refine wpAny_loadPart_at hC ?_ | (with_reducible refine wpAny_isSubtype_exc hC ?_; rw [hcB]) | wp_step)
  refine wpAny_onRaise ?_
  rw [show ∀ (a b : String) (n : Nat), Bind.check ⟨.positional, "*", B, .self, [⟨"args", .varPos, false⟩]⟩ a b n (List.map (fun x => x.fst) ({ pos := Value.ref e :: rest } : Args).kw) = pure () from
    fun a b n => check_star_args _ _ _ _ _ _]
  exact wpAny_pure hq
end
section
variable {nm q : Str} {C N : Addr} {bs bm : List Value} {hdct : Bool} {sn : List Str} {sub : List Value} {ab : Bool} {col : Option Bool} {dd : Option Addr} {k0 k1 k2 k3 k5 : Option Value} {B nid initId newId : String} {bmB : List Value}
variable {prog : Program} {w : World} {A : Around} {E : Value → Shared → Prop} {s : Shared}
theorem init_own (F : ExcBaseFacts B nid initId bmB) (hB : bm.contains (.type B) = true) {e : Addr} {ob : Obj} {vs : Array Value} {t0 : Addr} {rest : List Value} {Q : Value → Shared → Prop}
    (hC : s.heap.get? C = some (excClassObj nm q C N bs bm hdct sn sub ab col dd k0 k1 k2 k3 k5 newId)) (he : s.heap.get? e = some ob) (hcls : ob.cls = .ref C) (hd : ob.data = .fields vs) (h0 : vs[0]? = some (.ref t0))
    (h : Q .none { s with heap := (s.heap.push { cls := .type "tuple", data := .seq rest.toArray }).update e (Obj.mapFields (·.setIfInBounds 0 (.ref s.heap.objs.size))) }) (hrest : rest.length ≤ sizeLine := by size_fits) :
    wpAny (model prog w) A (call (.builtin initId) (.ref e :: rest)) Q E s := by
  obtain ⟨hp, g, d, tk, os⟩ := s
  refine wpAny_call (codeAny_call_builtin F.init.plain F.initEntry (check_init_own F hB hC he hcls ?_))
  unfold Builtin.«BaseException.__init__»
  dsimp only
  rw [if_neg (by simp)]
  unfold newTuple Builtin.BaseException.bexcPut
  have hsz : 0 < vs.size := (Array.getElem?_eq_some_iff.mp h0).1
  have he₁ := Heap.get?_push_of_some (h := hp) { cls := .type "tuple", data := .seq rest.toArray } he
  refine wpAny_bind (wpAny_newObj_type (wpAny_bind (wpAny_bind (wpAny_field he₁ hd h0 (wpAny_bind (wpAny_setField he₁ hd hsz ?_))))) (by show rest.toArray.size ≤ sizeLine; rw [List.size_toArray]; exact hrest))
  exact wpAny_letGo (wpAny_pure h)
end
section
variable {prog : Program} {w : World} {A : Around} {E : Value → Shared → Prop} {s : Shared} {K : Frag}
open Builtin.ObjectAttr in
theorem osa_openX {C x : Addr} {R : Result → Shared → Prop} {ox : Obj} {od : Option Obj} {name : Str} {tk : Tok} {v : Value} {cd : ClassData} (X : K.In s.heap) (I : InstAt s.heap x ox C od) (hc : clsIn K C = some cd) (hpass : refuseLoop (.ref x) "__setattr__" cd.mro = pure ())
    (hobj : cd.mro.contains (.type "object") = true) (ht : findIn K (.ref C) name = some none)
    (h : wpAny (model prog w) A.in1 (storeInOwnDict (.ref x) (.ref C) (.str name tk) name v false)
      (fun fin s' => match fin with | .done f => R (.ok f) s' | .again c' => c'.quiet = true ∧ codeAny (model prog w) A c' R s') (fun e s' => R (.error e) s') s) :
    codeAny (model prog w) A (.call (.builtin "object.__setattr__") ⟨[.ref x, .str name tk, v], []⟩) R s := by
  have SF := PySem.F.store_object
  have ne : cd.mro.isEmpty = false := by cases q : cd.mro with | nil => rw [q] at hobj; cases hobj | cons _ _ => rfl
  have sub : Looks (model prog w) s.heap (isInstance (.ref x) (.type "object")) true := I.type.andThen (looks_mroIn X (by unfold mroIn; rw [hc, Option.bind_some, if_neg (by rw [ne]; decide), hobj]))
  refine codeAny_call_builtin SF.slot.plain SF.entry (@check_slot (model prog w) _ _ s "object.__setattr__" "object" "__setattr__" (.ref x) [.str name tk, v] [] _ SF.kind SF.split sub (SF.args (.ref x) (.str name tk) v) ?_)
  have hm : Looks (model prog w) s.heap (mroOf (.ref C)) cd.mro := (looks_clsIn X hc).andThen .now
  have L3 : Looks (model prog w) s.heap (storeTaker? none) none := .now
  rw [osa_eq, refuse_eq]
  refine wpAny_bind (wpAny_bind (I.type.here (wpAny_bind (hm.here ?_))))
  rw [hpass]
  refine wpAny_pure (wpAny_bind (I.type.here (wpAny_bind ((looks_findIn X ht).here (wpAny_bind (L3.here ?_))))))
  exact h
open Builtin.ObjectAttr in
/-- the first attribute of an own object without a dict -/
theorem set_first {C x : Addr} {ox : Obj} {vs : Array Value} {name : Str} {v : Value} {Q : Unit → Shared → Prop} {cd : ClassData} (X : K.In s.heap) (he : s.heap.get? x = some ox) (hcls : ox.cls = .ref C) (hd : ox.dict = none) (hdata : ox.data = .fields vs)
    (hs : findIn K (.ref C) "__setattr__" = some (some (.builtin "object.__setattr__"))) (hc : clsIn K C = some cd) (hpass : refuseLoop (.ref x) "__setattr__" cd.mro = pure ()) (hobj : cd.mro.contains (.type "object") = true) (ht : findIn K (.ref C) name = some none) (hh : cd.hasDict = true)
    (h : ∀ h' tk', (∀ b o, b ≠ x → s.heap.get? b = some o → h'.get? b = some o) → h'.get? x = some { ox with dict := some s.heap.objs.size } → Q () { s with heap := h', toks := tk' }) :
    wpAny (model prog w) A (setAttr (.ref x) name v) Q E s := by
  have I : InstAt s.heap x ox C none := ⟨he, hcls, by unfold notCls; rw [hdata], by rw [hd]; trivial⟩
  obtain ⟨hp, g, dr, t, os⟩ := s
  refine set_plain X I hs (osa_openX X I hc hpass hobj ht ?_)
  obtain ⟨oc, odi, oda, osl⟩ := ox
  dsimp only at hcls hd hdata
  subst hcls hd hdata
  replace he : hp.get? x = some ⟨.ref C, none, .fields vs, osl⟩ := he
  replace X : K.In hp := X
  refine wpAny_bind (wpAny_pure (wpAny_bind (wpAny_bind (wpAny_loadPart he (wpAny_bind ((looks_clsIn (h := hp) X hc).here (s := ⟨hp, g, dr, t + 1, os⟩) ?_))))))
  rw [hh]
  have hx₁ : (hp.push { cls := .type "dict", data := .dict #[] }).get? x = some ⟨.ref C, none, .fields vs, osl⟩ := Heap.get?_push_of_some _ he
  have hxs : x ≠ hp.objs.size := Nat.ne_of_lt (Heap.lt_size he)
  refine wpAny_bind (wpAny_alloc' (wpAny_bind (wpAny_update' hx₁ (wpAny_pure ?_))))
  have hgd : ((hp.push { cls := .type "dict", data := .dict #[] }).update x fun o => { cls := o.cls, dict := some hp.objs.size, data := o.data, slots := o.slots }).get? hp.objs.size
      = some { cls := .type "dict", data := .dict #[] } :=
    (Heap.get?_update_ne _ _ _ _ hxs.symm).trans (Heap.get?_push_at rfl rfl)
  have hnd : ((hp.push { cls := .type "dict", data := .dict #[] }).update x fun o => { cls := o.cls, dict := some hp.objs.size, data := o.data, slots := o.slots }).Ns hp.objs.size (fun _ => none) :=
    ⟨_, #[], _, hgd, rfl, fun e he => absurd he (by simp), fun _ => rfl⟩
  show wpAny _ _ (storeInDict hp.objs.size (.str name t) name v) _ _ _
  unfold storeInDict newKeyGuard
  refine wpAny_bind (wpAny_pure (wpAny_bind (wpAny_nsSet1 (Heap.Ns1.of_empty hnd) fun h' hn' hs => ?_)))
  obtain ⟨oD, esD, epD, hoD, hdD, hcD⟩ := hn'.count (Within.cons name v Within.nil)
  refine wpAny_bind (wpAny_lookBehind hoD (by rw [hdD]; exact pastItsLine_dict (Nat.le_trans hcD (by rw [List.length_cons, List.length_nil, sizeLine_eq]; omega))) ?_)
  refine wpAny_pure (h h' _ (fun b ob hbx hb => ?_) ?_)
  · exact (hs.2 b (Nat.ne_of_lt (Heap.lt_size hb))).trans ((Heap.get?_update_ne _ _ _ _ hbx).trans (Heap.get?_push_of_some _ hb))
  · exact (hs.2 x hxs).trans (Heap.get?_update_self _ hx₁ rfl)
end
end
section
open PySem PySem.W PyProof.Rows PySem.Calls
set_option maxHeartbeats 2000000
/-- how the own exception and its base's __init__ stand -/
inductive RfCls (c : Cx) : Prop
  | mk (nm q N bs sn sub ab col dd k0 k1 k2 k3 k5 P) : c.K.lookup c.RF = some (excClassObj nm q c.RF N bs [.ref P, .type "Exception", .type "BaseException", .type "object"] true sn sub ab col dd k0 k1 k2 k3 k5 "Exception.__new__") → RfCls c
inductive RfInit (c : Cx) : Prop
  | mk (f : Addr) (name qual : Str) (params : Arguments) (scope : Scope) (cdv : Value) (p1 p2 p3 p4 p5 p6 p7 p8 p9 p10 : Pos) : findIn c.K (.ref c.RF) "__init__" = some (some (.ref f)) →
    FnOk c f name qual params [.Expr (.Call (.Attribute (.Name "Exception" p1) "__init__" p2) [.Name "self" p3, .Name "text" p4] [] p5) p6, .Assign [.Attribute (.Name "self" p7) "text" p8] (.Name "text" p9) p10] scope cdv ["self", "text"] →
    p2.endLine = p5.line → (c.K.lookup f).map (·.cls) = some (.type "function") → scope.names = [(("self" : Str), NameKind.local), (("text" : Str), NameKind.local), (("Exception" : Str), NameKind.globalImplicit)] → RfInit c
structure RfOk (c : Cx) (RF : Str) : Prop where
  dbg : (RF == ("__debug__" : Str)) = false
  glob : nsIn c.K mainGlobals RF = some (some (.ref c.RF))
  cls : RfCls c
  keep : keepIn c.K (.ref c.RF) = true
  seta : findIn c.K (.ref c.RF) "__setattr__" = some (some (.builtin "object.__setattr__"))
  text : findIn c.K (.ref c.RF) "text" = some none
  exc : nsIn c.K mainGlobals "Exception" = some none
  init : RfInit c

section
variable {c : Cx} {n : Nat} {fb : FB} {W : GW} {σ : St} {s : Shared} {RF : Str}
theorem exc_init_cls {K : Frag} : findCls K (.type "Exception") (.type "type") "__init__" = some (.val (.builtin "Exception.__init__")) := by kernel_rfl

theorem raise_ok (ro : RfOk c RF) (n : Nat) : RaiseOk c n RF := by
  intro fb W σ s t p p2 p3 pos kk Qc Ec fo R hk hE
  obtain ⟨nm, q, N, bs, sn, sub, ab, col, dd, k0, k1, k2, k3, k5, P, hcl⟩ := ro.cls
  obtain ⟨f, name, qual, params, scope, cdv, p1, p2', p3', p4, p5, p6, p7, p8, p9, p10, hinit, F, hln, hfc, hnames⟩ := ro.init
  rw [arm_exec_Raise]
  refine wpAny_bind (wpAny_standAt ?_)
  refine raise_made (nm := nm) (q := q) (C := c.RF) (N := N) (bs := bs) (bm := [.ref P, .type "Exception", .type "BaseException", .type "object"]) (hdct := true) (sn := sn) (sub := sub) (ab := ab) (col := col) (dd := dd) (k0 := k0) (k1 := k1) (k2 := k2) (k3 := k3) (k5 := k5) (newId := "Exception.__new__") rfl fo.hd ?_
  refine wpAny_bind ?_
  show wpAny _ _ (eval (.Call (.Name RF p) [.Constant (.str t) kk p2] [] p3) fb.env) _ _ _
  rw [call_eq (fun o a p h => by cases h)]
  refine wpAny_bind (glob_read fo.toFm R fo.hk fo.gl hk ro.glob ro.dbg ?_)
  refine callWith_of (P := fun h => c.K.In h ∧ keepIn c.K (.ref c.RF) = true) rfl (fun h hp => keeps_K hp.2 h hp.1) ?_
  refine evalArgs_plain ?_
  refine wpAny_items_cons (pos := p3) (e := .Constant (.str t) kk p2) (rest := []) (env := fb.env) (wpAny_Constant_str (wpAny_items_nil ?_))
  have R1 := R.tok (s.toks + 1)
  have X := fo.X.keeps R.F.keep
  refine ⟨⟨X, ro.keep⟩, ?_⟩
  obtain ⟨oc, od, dV, kV, doc, pm, an, ct, osl, ho, hbind⟩ := F.ho
  have hfc' : oc = .type "function" := by rw [ho] at hfc; simpa using hfc
  subst hfc'
  refine call_own PySem.F.excBase_Exception rfl rfl rfl (X _ _ hcl) (fun h' A' Q' E' hk' q' => ?_) (X _ _ ho) rfl (fun h' e M => ?_) (by size_fits)
  · exact (looks_findIn (fun b o x => hk' _ _ (X b o x)) hinit).here q'
  obtain ⟨te, he, hte0, hte⟩ := M.there
  have R2 : RelF c (fb.hid (e, { cls := .ref c.RF, data := .fields #[.ref te, .none, .none, .none, .bool false, .none] })) W σ { s with heap := h', toks := s.toks + 1 } := by
    have efr : ∀ q ∈ led W fb.Hid, q.1 ≠ e := fun q hq z => Option.some_ne_none _ ((R.N q hq).1.symm.trans (by rw [z]; exact M.new))
    have F2 : Fr fb.h₀ fb.L h' fb.m := by
      obtain ⟨⟨oL, a1, a2, hoL, a3⟩, hkk, ha⟩ := R.F
      exact ⟨⟨oL, a1, a2, M.keeps _ _ hoL, a3⟩, fun b o z => M.keeps _ _ (hkk b o z), ha⟩
    refine R.tohid F2 (fun q hq => ?_) efr
    rcases List.mem_cons.mp hq with rfl | hq
    · refine ⟨he, fun z => ?_, ?_⟩
      · obtain ⟨oL, a1, a2, hoL, a3⟩ := R.F.ns
        have hoL' := M.new
        rw [show e = fb.L from z, hoL] at hoL'
        cases hoL'
      · show fb.h₀.get? e = none
        cases z : fb.h₀.get? e with
        | none => rfl
        | some o => have := M.new; rw [R.F.keep _ _ z] at this; cases this
    · exact ⟨M.keeps _ _ (R.N q hq).1, (R.N q hq).2⟩
  have hw : ((fb.A.under (.builtin "type.__call__" ⟨.ref c.RF :: [.str t s.toks], []⟩)).depth < recursionLimit) ∧ (fb.A.under (.builtin "type.__call__" ⟨.ref c.RF :: [.str t s.toks], []⟩)).frames = some (fb.env :: fb.outer) := by
    constructor
    · have := fo.dp
      show fb.A.depth + Code.weight _ < _
      rw [show (Code.builtin "type.__call__" ⟨.ref c.RF :: [.str t s.toks], []⟩).weight = 1 from rfl]
      omega
    · exact fo.fr
  refine wpAny_call (callX_plain (L := fb.L) (m := fb.m) fo.B R2.F R2.N fo.lim hw.2 fo.hf fo.hk ((fo.X.keeps R2.F.keep) _ _ ho) rfl (codeRec_of (fo.X.keeps R2.F.keep) F.hcd) hw.1 (hbind [.ref e, .str t s.toks] rfl _) (fun y hy => ?_) (fun g L' h₁ Fg F' N' BG st lt => ?_) (fun x hx => ?_) F.hco F.hgen F.hk)
  · rw [hnames]
    simp only [List.zip_cons_cons, List.zip_nil_right, List.mem_cons, List.not_mem_nil, or_false] at hy
    rcases hy with rfl | rfl <;> rfl
  rotate_left
  · rw [hnames] at hx
    simp only [List.mem_cons, List.not_mem_nil, or_false] at hx
    rcases hx with rfl | rfl | rfl <;> decide
  have T1 := fo.T.keeps st
  have X1 : c.K.In g := fo.X.keeps st
  have kself : (envX qual scope L' f cdv []).kindOf "self" = some .local := by show scope.names.lookup _ = _; rw [hnames]; rfl
  have ktext : (envX qual scope L' f cdv []).kindOf "text" = some .local := by show scope.names.lookup _ = _; rw [hnames]; rfl
  have kexc : (envX qual scope L' f cdv []).kindOf "Exception" = some .globalImplicit := by show scope.names.lookup _ = _; rw [hnames]; rfl
  have hint : interactive (envX qual scope L' f cdv []) = false := by
    unfold interactive
    rw [show (envX qual scope L' f cdv []).scope.kind = .function from F.hk]
    rfl
  have rd : ∀ {x : Str} {v : Value} {pp : Pos} {A' : Around} {E' : Value → Shared → Prop} {Q' : Value → Shared → Prop} {s₂ : Shared} {m₂ : Str → Option Value}, (envX qual scope L' f cdv []).kindOf x = some .local → Fr g L' s₂.heap m₂ → m₂ x = some v → (x == ("__debug__" : Str)) = false → Q' v s₂ → wpAny (model c.prog c.w) A' (eval (.Name x pp) (envX qual scope L' f cdv [])) Q' E' s₂ := fun h1 F2 h2 h3 h4 =>
    wpAny_Name (wpAny_loadName_local F.hk h1 F2.ns h2 h4) h3
  refine wpAny_execs_cons (wpAny_Expr_any (MethodCall_ (Name_function_global F.hk kexc (loadGlobal_builtin (T1.g.keeps F'.keep) (mg_none_of X1 T1.g ro.exc) (T1.b.keeps F'.keep) ((T1.builtins _ (by decide)).trans Boot.«Exception») ?_) (by decide)) (meth_eq rfl hln rfl)) hint rfl)
  refine method_type F' X1 rfl (by decide +kernel) exc_init_cls rfl ?_
  refine callWith_builtin rfl (evalArgs_plain (wpAny_items_cons (pos := p5) (e := .Name "self" p3') (rest := [.Name "text" p4]) (env := envX qual scope L' f cdv []) (rd kself F' rfl (by decide) (wpAny_items_cons (rd ktext F' rfl (by decide) (wpAny_items_nil ?_))))))
  have he1 := (N' _ (hid_perm.mem_iff.mpr (.head _))).1
  have hc1 := (X1.keeps F'.keep) _ _ hcl
  refine init_own PySem.F.excBase_Exception rfl hc1 he1 rfl rfl rfl ?_ (by size_fits)
  have hne : ∀ q ∈ led W fb.Hid, q.1 ≠ e := R2.toLg.notIn
  have hme := N' _ (hid_perm.mem_iff.mpr (.head _))
  have hLe : L' ≠ e := Ne.symm hme.2.1
  have hge : ∀ b o, g.get? b = some o → b ≠ e := fun b o z y => Option.some_ne_none _ (z.symm.trans (by rw [y]; exact hme.2.2))
  generalize hH2 : (h₁.push { cls := .type "tuple", data := .seq [Value.str t s.toks].toArray }).update e (Obj.mapFields (·.setIfInBounds 0 (.ref h₁.objs.size))) = H2
  have k2 : ∀ b o, b ≠ e → h₁.get? b = some o → H2.get? b = some o := fun b o z x => by
    rw [← hH2]; exact (Heap.get?_update_ne _ _ _ _ z).trans (Heap.get?_push_of_some _ x)
  have e2 : H2.get? e = some { cls := .ref c.RF, data := .fields #[.ref h₁.objs.size, .none, .none, .none, .bool false, .none] } := by
    rw [← hH2]; exact Heap.get?_update_self _ (Heap.get?_push_of_some _ he1) rfl
  have fr : ∀ {hh : Heap}, (∀ b o, b ≠ e → h₁.get? b = some o → hh.get? b = some o) → Fr g L' hh (fun y => (List.zip [("self" : Str), ("text" : Str)] [.ref e, .str t s.toks]).reverse.lookup y) := fun {hh} k => by
    obtain ⟨⟨oL, a1, a2, hoL, a3⟩, hkk, ha⟩ := F'
    exact ⟨⟨oL, a1, a2, k _ _ hLe hoL, a3⟩, fun b o z => k _ _ (hge b o z) (hkk b o z), ha⟩
  have F2 := fr k2
  refine wpAny_execs_cons (plainObj_wpAny_Assign_Attribute (rd (s₂ := ⟨H2, s.gens, s.drawn, _, s.os⟩) ktext F2 rfl (by decide) (rd kself F2 rfl (by decide) ?_)) rfl)
  obtain ⟨cd, hcd, ecd⟩ : ∃ cd : ClassData, clsIn c.K c.RF = some cd ∧ cd = { name := nm, bases := bs, mro := .ref c.RF :: [.ref P, .type "Exception", .type "BaseException", .type "object"], ns := N, qualname := q, hasDict := true, slotNames := sn, subclasses := sub, abstract := ab, collection := col } := ⟨_, by unfold clsIn; rw [hcl], rfl⟩
  have hmro : cd.mro = .ref c.RF :: [.ref P, .type "Exception", .type "BaseException", .type "object"] := by rw [ecd]
  refine set_first (X1.keeps F2.keep) e2 rfl rfl rfl ro.seta hcd ?_ (by rw [hmro]; rfl) ro.text (by rw [ecd]) fun h' tk' hk3 he3 => wpAny_execs_nil ?_
  · rw [hmro, refuseLoop_ref, refuseLoop_ref]; exact PySem.F.store_Exception.passes _
  have k3 : ∀ b o, b ≠ e → h₁.get? b = some o → h'.get? b = some o := fun b o z x => hk3 b o z (k2 b o z x)
  have N3 : News g L' h' (led W fb.Hid) := fun q hq => ⟨k3 _ _ (hne q hq) (N' q (hid_perm.mem_iff.mpr (.tail _ hq))).1, (N' q (hid_perm.mem_iff.mpr (.tail _ hq))).2⟩
  refine leaveK_ (news' := (e, { cls := .ref c.RF, dict := some H2.objs.size, data := .fields #[.ref h₁.objs.size, .none, .none, .none, .bool false, .none] }) :: led W fb.Hid) (fr k3) (fun q hq => ?_) fun F4 N4 => ?_
  · rcases List.mem_cons.mp hq with rfl | hq
    · exact ⟨he3, hme.2⟩
    · exact N3 q hq
  refine ⟨rfl, wpAny_bind (wpAny_standAt (wpAny_pure ⟨e, _, _, _, rfl, (fo.X.keeps F4.keep) _ _ hcl, he3, ?_⟩))⟩
  have m4 := N4 _ (.head _)
  have hLe0 : fb.L ≠ e := Ne.symm m4.2.1
  have hh := fun b o => of_hideAll [e] (h := h') (b := b) (o := o)
  refine hE e _ (hideAll h' [e]) ?_ (fun q hq => ⟨hideAll_get _ (N4 q (.tail _ hq)).1 (by simpa using hne q hq), (N4 q (.tail _ hq)).2⟩) ⟨fun b o z => hh b o z, hideAll_none _ (.head _), _, _, _, he3, rfl, rfl, rfl, rfl⟩ ⟨R.sm.1, R.sm.2, R.sm.3⟩
  obtain ⟨⟨oL, a1, a2, hoL, a3⟩, hkk, ha⟩ := F4
  refine ⟨⟨oL, a1, a2, hideAll_get _ hoL (by simpa using hLe0), a3⟩, fun b o z => hideAll_get _ (hkk b o z) ?_, ha⟩
  have : b ≠ e := fun y => Option.some_ne_none _ (z.symm.trans (by rw [y]; exact m4.2.2))
  simpa using this
end
end
section
open PySem PySem.W PyProof.Rows PySem.Calls
set_option maxHeartbeats 2000000
section
variable {c : Cx} {C : Ctr} {n : Nat} {fb : FB} {W W' : GW} {σ : St} {s : Shared}
/-- two new mutable objects at once -/
theorem RelF.mut2 {x dx : Addr} {ox od : Obj} {ax ad : AO} {h' : Heap} {tk : Nat} (R : RelF c fb W σ s) (F : Fr fb.h₀ fb.L h' fb.m) (N : News fb.h₀ fb.L h' ((x, ox) :: (dx, od) :: led W fb.Hid))
    (hx : ∀ p ∈ led W fb.Hid, p.1 ≠ x) (hd : ∀ p ∈ led W fb.Hid, p.1 ≠ dx) (hxd : x ≠ dx) (sx : (x == sysModules) = false) (sd : (dx == sysModules) = false)
    (o1 : OR c.CR c.prog c.w { W with Mu := W.Mu ++ [(x, ox), (dx, od)] } ax ox) (o2 : OR c.CR c.prog c.w { W with Mu := W.Mu ++ [(x, ox), (dx, od)] } ad od) :
    RelF c fb { W with Mu := W.Mu ++ [(x, ox), (dx, od)] } (σ ++ [ax, ad]) { s with heap := h', toks := tk } where
  nd := by
    have n1 := nd_mut (o := ox) R.nd hx
    have n2 := nd_mut (W := { W with Mu := W.Mu ++ [(x, ox)] }) (a := dx) (o := od) n1 fun p hp => by
      rcases List.mem_cons.mp (mem_mut hp) with rfl | hp
      · exact hxd
      · exact hd p hp
    rw [show W.Mu ++ [(x, ox), (dx, od)] = (W.Mu ++ [(x, ox)]) ++ [(dx, od)] by rw [List.append_assoc]; rfl]
    exact n2
  hr := by
    have le : W.Le { W with Mu := W.Mu ++ [(x, ox), (dx, od)] } := ⟨rfl, ⟨[x, dx], by simp [GW.ad]⟩, fun p h => h⟩
    have h1 := ((R.hr.mono R.cm le).snoc (p := (x, ox)) o1).snoc (p := (dx, od)) o2
    rw [List.append_assoc, List.append_assoc] at h1
    exact h1
  g := R.g
  cm := R.cm
  ns := fun p hp => by
    rcases List.mem_append.mp hp with hp | hp
    · exact R.ns p hp
    · simp only [List.mem_cons, List.not_mem_nil, or_false] at hp
      rcases hp with rfl | rfl
      · exact .inr sx
      · exact .inr sd
  F := F
  N := fun p hp => N p (by
    simp only [led, List.mem_append, List.mem_cons, List.not_mem_nil, or_false] at hp ⊢
    rcases hp with (h | h | h) | h | h <;> simp [*])
  sm := ⟨R.sm.1, R.sm.2, R.sm.3⟩

noncomputable def FB.und (fb : FB) (cd : Code) : FB := { fb with A := fb.A.under cd }
theorem Way.of_und {cd : Code} {l : Led} {e : Addr} {h : Heap} (w : Way c (fb.und cd) l e h) : Way c fb l e h := by
  cases w with
  | made h₁ F N x => exact .made h₁ F N x
  | fly g B a0 fl F x1 x2 x3 => exact .fly g B a0 fl F x1 x2 x3
theorem Rx.of_und {cd : Code} {v : Value} (R : Rx c (fb.und cd) W σ v s) : Rx c fb W σ v s := by
  obtain ⟨a, e, w⟩ := R.way
  exact ⟨R.toLg, R.sm, a, e, w.of_und⟩

structure MakeOk (K : Frag) (D fI : Addr) : Prop where
  makes : makesIn K D = true
  init : findIn K (.ref D) "__init__" = some (some (.ref fI))
  fn : typeIn K (.ref fI) = some (.type "function")
  keep : keepIn K (.ref D) = true
/-- a class of the text is called -/
theorem snd_make0 {D fI : Addr} (M : MakeOk c.K D fI) {args : List AV} {vs : List Value} {ex : St → Prop} {Q : KE} {Qc Ec : Value → Shared → Prop} (fo : FB.ok fb c (n + 1)) (R : RelF c fb W σ s) (V : VRs c.CR W args vs)
    (hq : PQ c fb W Q Qc) (hx : PX c fb W ex Ec)
    (h : ∀ fb₁ W₁ s₁ x Qc₁, FB.ok fb₁ c n → fb₁.A.depth + 2 * n + 9 < recursionLimit → fb₁.A.units + 8 * n + 134 < cLine → RelF c fb₁ W₁ (σ ++ [.inst D (σ.length + 1), .attrs []]) s₁ → VRs c.CR W₁ (.obj σ.length :: args) (.ref x :: vs) →
      PQ c fb₁ W₁ (fun v σ' => v = .none ∧ Q (.obj σ.length) σ') Qc₁ → PX c fb₁ W₁ ex Ec → codeAny (model c.prog c.w) fb₁.A (.call (.ref fI) ⟨.ref x :: vs, []⟩) (RetP Qc₁ Ec) s₁) :
    codeAny (model c.prog c.w) fb.A (.call (.ref D) ⟨vs, []⟩) (RetP Qc Ec) s := by
  obtain ⟨hh, g, d, t, os⟩ := s
  have X := fo.X.keeps R.F.keep
  have N' := (R.N.push R.F emptyDict).push (R.F.push _) (instObj D hh.objs.size)
  have F' := (R.F.push emptyDict).push (instObj D hh.objs.size)
  have hl : ∀ p ∈ led W fb.Hid, p.1 < hh.objs.size := fun p hp => Heap.lt_size (R.N p hp).1
  rw [Heap.size_push] at N'
  have nS := R.notSys fo.lim
  have nS1 : ((hh.objs.size + 1) == sysModules) = false := by
    have h1 := modules_low fo.lim
    have h2 := R.F.above
    have h3 := R.F.ns.lt
    dsimp only at h3
    simp only [beq_eq_false_iff_ne, ne_eq]
    intro e
    have t : sysModules < hh.objs.size := Nat.lt_of_lt_of_le h1 (Nat.le_trans h2 (Nat.le_of_lt h3))
    exact absurd t (Nat.not_lt.mpr (Nat.le_trans (Nat.le_succ _) (Nat.le_of_eq e)))
  refine make_core (makes_of X M.makes) (looks_findIn X M.init) (fun self => bind_fn X self M.fn) (.inl rfl) ?_
  generalize hxe : hh.objs.size + 1 = x at *
  generalize hde : hh.objs.size = dx at *
  generalize hhe : (hh.push emptyDict).push (instObj D dx) = h' at *
  have hlt : dx < x := by omega
  have hxl : ∀ p ∈ led W fb.Hid, p.1 < x := fun p hp => Nat.lt_trans (hl p hp) hlt
  have ad1 : (W.Mu ++ [(x, instObj D dx), (dx, emptyDict)]).map (·.1) = W.ad ++ [x, dx] := by simp [GW.ad]
  have al : W.ad.length = σ.length := by rw [GW.ad, List.length_map, R.hr.length]
  have R1 : RelF c fb { W with Mu := W.Mu ++ [(x, instObj D dx), (dx, emptyDict)] } (σ ++ [.inst D (σ.length + 1), .attrs []]) ⟨h', g, d, t, os⟩ :=
    RelF.mut2 (tk := t) R F' N' (fun p hp => Nat.ne_of_lt (hxl p hp)) (fun p hp => Nat.ne_of_lt (hl p hp)) (Nat.ne_of_gt hlt) nS1 nS
      (.inst (by show ((W.Mu ++ _).map (·.1))[_]? = _; rw [ad1, List.getElem?_append_right (by omega), al]; simp)) (.attrs (es := []) (ds := []) (n := 0) .nil)
  have le1 : W.Le { W with Mu := W.Mu ++ [(x, instObj D dx), (dx, emptyDict)] } := ⟨rfl, ⟨[x, dx], ad1⟩, fun p h => h⟩
  have hw : (Code.builtin "type.__call__" ⟨.ref D :: vs, []⟩).weight = 1 := rfl
  have fo1 : FB.ok (fb.und (.builtin "type.__call__" ⟨.ref D :: vs, []⟩)) c n := {
    B := fo.B
    X := fo.X
    T := fo.T
    fr := fo.fr
    hf := fo.hf
    hk := fo.hk
    lo := fo.lo
    gl := fo.gl
    bi := fo.bi
    hd := fo.hd
    dp := by show fb.A.depth + Code.weight _ + 2 * n + 8 < _; rw [hw]; have := fo.dp; omega
    un := by show fb.A.units + 1 + 8 * n + 128 < _; have := fo.un; omega
    ce := fo.ce }
  refine codeAny_mono (h (fb.und _) _ _ x (fun v s' => v = .none ∧ Qc (.ref x) s') fo1 (by show fb.A.depth + Code.weight _ + 2 * n + 9 < _; rw [hw]; have := fo.dp; omega) (by show fb.A.units + 1 + 8 * n + 134 < _; have := fo.un; omega) R1 (.cons (.obj ?_) (V.mono R.cm le1)) (fun v av σ' s' W' R' le' V' q => ?_) fun e σ' s' W' Rx' le' q => ?_) fun r s' z => ?_
  · show ((W.Mu ++ _).map (·.1))[_]? = _
    rw [ad1, List.getElem?_append_right (by omega), al]
    simp
  · obtain ⟨rfl, q⟩ := q
    refine ⟨V'.none_inv, hq (.ref x) (.obj σ.length) σ' s' W' R' (le1.trans le') (.obj ?_) q⟩
    obtain ⟨y, e⟩ := le'.mu
    rw [e, List.getElem?_append_left]
    · show ((W.Mu ++ _).map (·.1))[_]? = _
      rw [ad1, List.getElem?_append_right (by omega), al]
      simp
    · show _ < ((W.Mu ++ _).map (·.1)).length
      rw [ad1]; simp [al]
  · exact hx e σ' s' W' Rx'.of_und (le1.trans le') q
  · rcases r with e | (v | _ | _ | _) <;> first | exact z | exact z.elim
theorem snd_make {D fI : Addr} (M : MakeOk c.K D fI) (sn : SndC c C n) {args : List AV} {vs : List Value} {ex : St → Prop} {Q : KE} {Qc Ec : Value → Shared → Prop} (fo : FB.ok fb c (n + 1)) (R : RelF c fb W σ s) (V : VRs c.CR W args vs)
    (E : C (.top fI) (.obj σ.length :: args) (σ ++ [.inst D (σ.length + 1), .attrs []]) ex fun v σ' => v = .none ∧ Q (.obj σ.length) σ') (hq : PQ c fb W Q Qc) (hx : PX c fb W ex Ec) :
    codeAny (model c.prog c.w) fb.A (.call (.ref D) ⟨vs, []⟩) (RetP Qc Ec) s :=
  snd_make0 M fo R V hq hx fun fb₁ W₁ s₁ x Qc₁ f1 _ _ R1 V1 q1 x1 => sn.code fb₁ _ _ _ (.top fI) (.ref fI) _ _ ex _ Qc₁ Ec f1 R1 .top V1 E q1 x1
end
end
section
open PySem PySem.W PyProof.Rows PySem.Calls
/-- units_of -/
noncomputable def b_60 : List XS := [.ite (.cmp (.name [107, 105, 110, 100]) [.Eq] [(.const (.int (5)))]) [.ret (.const (.int (0)))] [], .ite (.bool .Or [(.cmp (.name [107, 105, 110, 100]) [.Eq] [(.const (.int (2)))]), (.cmp (.name [107, 105, 110, 100]) [.Eq] [(.const (.int (3)))])]) [.ret (.const (.int (2)))] [], .ret (.const (.int (1)))]
noncomputable abbrev p_60 : List (List Nat) := [[107, 105, 110, 100]]
/-- count_digits -/
noncomputable def b_68 : List XS := [.asg (.name [110]) (.bcall .abs [(.name [110])]), .asg (.name [99, 111, 117, 110, 116]) (.const (.int (0))), .whl (.cmp (.name [110]) [.GtE] [(.const (.int (1000000000)))]) [.aug [110] .FloorDiv (.const (.int (1000000000))), .aug [99, 111, 117, 110, 116] .Add (.const (.int (9)))], .whl (.cmp (.name [110]) [.Gt] [(.const (.int (0)))]) [.aug [110] .FloorDiv (.const (.int (10))), .aug [99, 111, 117, 110, 116] .Add (.const (.int (1)))], .ret (.name [99, 111, 117, 110, 116])]
noncomputable abbrev p_68 : List (List Nat) := [[110]]
/-- strip_zeros -/
noncomputable def b_75 : List XS := [.ite (.cmp (.name [109]) [.Eq] [(.const (.int (0)))]) [.ret (.const (.tup [(.int (0)), (.int (0))]))] [], .whl (.cmp (.bin .Mod (.name [109]) (.const (.int (10)))) [.Eq] [(.const (.int (0)))]) [.aug [109] .FloorDiv (.const (.int (10))), .aug [101] .Add (.const (.int (1)))], .ret (.tup [(.name [109]), (.name [101])])]
noncomputable abbrev p_75 : List (List Nat) := [[109], [101]]
/-- round_digits -/
noncomputable def b_82 : List XS := [.asg (.name [100, 114, 111, 112]) (.bin .Sub (.call (.const (.con 68)) [(.name [109])]) (.name [100, 105, 103, 105, 116, 115])), .ite (.cmp (.name [100, 114, 111, 112]) [.Gt] [(.const (.int (0)))]) [.asg (.name [112, 111, 119, 101, 114]) (.bin .Pow (.const (.int (10))) (.name [100, 114, 111, 112])), .asg (.tup [[107, 101, 112, 116], [114, 101, 115, 116]]) (.bcall .divmod [(.bcall .abs [(.name [109])]), (.name [112, 111, 119, 101, 114])]), .ite (.bool .Or [(.cmp (.bin .Mult (.const (.int (2))) (.name [114, 101, 115, 116])) [.Gt] [(.name [112, 111, 119, 101, 114])]), (.bool .And [(.cmp (.bin .Mult (.const (.int (2))) (.name [114, 101, 115, 116])) [.Eq] [(.name [112, 111, 119, 101, 114])]), (.cmp (.bin .Mod (.name [107, 101, 112, 116]) (.const (.int (2)))) [.Eq] [(.const (.int (1)))])])]) [.aug [107, 101, 112, 116] .Add (.const (.int (1)))] [], .asg (.name [109]) (.ite (.cmp (.name [109]) [.Gt] [(.const (.int (0)))]) (.name [107, 101, 112, 116]) (.un .USub (.name [107, 101, 112, 116]))), .aug [101] .Add (.name [100, 114, 111, 112])] [], .ret (.call (.const (.con 75)) [(.name [109]), (.name [101])])]
noncomputable abbrev p_82 : List (List Nat) := [[109], [101], [100, 105, 103, 105, 116, 115]]
/-- round_real -/
noncomputable def b_89 : List XS := [.asg (.tup [[109], [101]]) (.call (.const (.con 82)) [(.name [109]), (.name [101]), (.name [100, 105, 103, 105, 116, 115])]), .asg (.name [108, 101, 97, 100]) (.bin .Sub (.bin .Add (.name [101]) (.call (.const (.con 68)) [(.name [109])])) (.const (.int (1)))), .ite (.bool .Or [(.cmp (.name [109]) [.Eq] [(.const (.int (0)))]), (.cmp (.name [108, 101, 97, 100]) [.Lt] [(.un .USub (.name [116, 111, 112]))])]) [.ret (.const (.tup [(.int (0)), (.int (0))]))] [], .ite (.cmp (.name [108, 101, 97, 100]) [.Gt] [(.name [116, 111, 112])]) [.raise [111, 118, 101, 114, 102, 108, 111, 119]] [], .ret (.tup [(.name [109]), (.name [101])])]
noncomputable abbrev p_89 : List (List Nat) := [[109], [101], [100, 105, 103, 105, 116, 115], [116, 111, 112]]
/-- real_of_int -/
noncomputable def b_145 : List XS := [.ret (.call (.const (.con 89)) [(.name [110]), (.const (.int (0))), (.name [100, 105, 103, 105, 116, 115]), (.name [116, 111, 112])])]
noncomputable abbrev p_145 : List (List Nat) := [[110], [100, 105, 103, 105, 116, 115], [116, 111, 112]]
/-- real_to_int -/
noncomputable def b_152 : List XS := [.asg (.tup [[109], [101]]) (.name [120]), .ite (.cmp (.name [101]) [.GtE] [(.const (.int (0)))]) [.ret (.bin .Mult (.name [109]) (.bin .Pow (.const (.int (10))) (.name [101])))] [], .asg (.name [102, 111, 117, 110, 100]) (.bin .FloorDiv (.bcall .abs [(.name [109])]) (.bin .Pow (.const (.int (10))) (.un .USub (.name [101])))), .ret (.ite (.cmp (.name [109]) [.Gt] [(.const (.int (0)))]) (.name [102, 111, 117, 110, 100]) (.un .USub (.name [102, 111, 117, 110, 100])))]
noncomputable abbrev p_152 : List (List Nat) := [[120]]
/-- digits_of -/
noncomputable def b_159 : List XS := [.ret (.ite (.cmp (.name [107, 105, 110, 100]) [.Eq] [(.const (.int (1)))]) (.attr (.name [108, 105, 109, 105, 116, 115]) [114, 101, 97, 108, 95, 100, 105, 103, 105, 116, 115]) (.attr (.name [108, 105, 109, 105, 116, 115]) [100, 111, 117, 98, 108, 101, 95, 100, 105, 103, 105, 116, 115]))]
noncomputable abbrev p_159 : List (List Nat) := [[107, 105, 110, 100], [108, 105, 109, 105, 116, 115]]
/-- fit_int -/
noncomputable def b_663 : List XS := [.asg (.name [109, 111, 115, 116]) (.bin .LShift (.const (.int (1))) (.bin .Sub (.name [119, 105, 100, 116, 104]) (.const (.int (1))))), .ite (.bool .Or [(.cmp (.name [110]) [.Lt] [(.un .USub (.name [109, 111, 115, 116]))]), (.cmp (.name [110]) [.GtE] [(.name [109, 111, 115, 116])])]) [.raise [105, 110, 116, 101, 103, 101, 114, 32, 111, 118, 101, 114, 102, 108, 111, 119]] [], .ret (.name [110])]
noncomputable abbrev p_663 : List (List Nat) := [[110], [119, 105, 100, 116, 104]]
/-- cut_quotient -/
noncomputable def b_670 : List XS := [.asg (.name [102, 111, 117, 110, 100]) (.bin .FloorDiv (.bcall .abs [(.name [120])]) (.bcall .abs [(.name [121])])), .ret (.ite (.cmp (.cmp (.name [120]) [.Lt] [(.const (.int (0)))]) [.Eq] [(.cmp (.name [121]) [.Lt] [(.const (.int (0)))])]) (.name [102, 111, 117, 110, 100]) (.un .USub (.name [102, 111, 117, 110, 100])))]
noncomputable abbrev p_670 : List (List Nat) := [[120], [121]]
/-- order_of -/
noncomputable def b_677 : List XS := [.ite (.cmp (.name [120]) [.Eq] [(.name [121])]) [.ret (.const (.int (0)))] [], .ret (.ite (.cmp (.name [120]) [.Lt] [(.name [121])]) (.un .USub (.const (.int (1)))) (.const (.int (1))))]
noncomputable abbrev p_677 : List (List Nat) := [[120], [121]]
/-- collate -/
noncomputable def b_684 : List XS := [.asg (.name [119, 105, 100, 101]) (.bcall .max [(.bcall .len [(.name [120])]), (.bcall .len [(.name [121])])]), .ret (.call (.const (.con 677)) [(.bin .Add (.name [120]) (.bin .Mult (.const (.str [32])) (.bin .Sub (.name [119, 105, 100, 101]) (.bcall .len [(.name [120])])))), (.bin .Add (.name [121]) (.bin .Mult (.const (.str [32])) (.bin .Sub (.name [119, 105, 100, 101]) (.bcall .len [(.name [121])]))))])]
noncomputable abbrev p_684 : List (List Nat) := [[120], [121]]
/-- unary -/
noncomputable def b_691 : List XS := [.ite (.bool .And [(.cmp (.name [111, 112]) [.Eq] [(.const (.str [110, 111, 116]))]), (.cmp (.name [107, 105, 110, 100]) [.Eq] [(.const (.int (4)))])]) [.ret (.un .Not (.name [120]))] [], .ite (.bool .And [(.cmp (.name [111, 112]) [.Eq] [(.const (.str [110, 101, 103]))]), (.cmp (.name [107, 105, 110, 100]) [.Eq] [(.const (.int (0)))])]) [.ret (.call (.const (.con 663)) [(.un .USub (.name [120])), (.attr (.name [108, 105, 109, 105, 116, 115]) [119, 105, 100, 116, 104])])] [], .ite (.bool .And [(.cmp (.name [111, 112]) [.Eq] [(.const (.str [110, 101, 103]))]), (.bool .Or [(.cmp (.name [107, 105, 110, 100]) [.Eq] [(.const (.int (1)))]), (.cmp (.name [107, 105, 110, 100]) [.Eq] [(.const (.int (2)))])])]) [.ret (.call (.const (.con 110)) [(.name [120])])] [], .ite (.bool .And [(.cmp (.name [111, 112]) [.Eq] [(.const (.str [110, 101, 103]))]), (.cmp (.name [107, 105, 110, 100]) [.Eq] [(.const (.int (3)))])]) [.ret (.call (.const (.con 425)) [(.name [120])])] [], .raise [110, 111, 32, 115, 117, 99, 104, 32, 111, 112, 101, 114, 97, 116, 105, 111, 110]]
noncomputable abbrev p_691 : List (List Nat) := [[111, 112], [107, 105, 110, 100], [120], [108, 105, 109, 105, 116, 115]]
/-- real_as -/
noncomputable def b_698 : List XS := [.asg (.name [100, 105, 103, 105, 116, 115]) (.call (.const (.con 159)) [(.name [116, 111]), (.name [108, 105, 109, 105, 116, 115])]), .ite (.cmp (.name [111, 102]) [.Eq] [(.const (.int (0)))]) [.ret (.call (.const (.con 145)) [(.name [118, 97, 108, 117, 101]), (.name [100, 105, 103, 105, 116, 115]), (.attr (.name [108, 105, 109, 105, 116, 115]) [116, 111, 112, 95, 101, 120, 112, 111, 110, 101, 110, 116])])] [], .ite (.cmp (.name [111, 102]) [.Eq] [(.const (.int (3)))]) [.asg (.name [118, 97, 108, 117, 101]) (.sub (.name [118, 97, 108, 117, 101]) (.const (.int (0))))] [], .ret (.call (.const (.con 89)) [(.sub (.name [118, 97, 108, 117, 101]) (.const (.int (0)))), (.sub (.name [118, 97, 108, 117, 101]) (.const (.int (1)))), (.name [100, 105, 103, 105, 116, 115]), (.attr (.name [108, 105, 109, 105, 116, 115]) [116, 111, 112, 95, 101, 120, 112, 111, 110, 101, 110, 116])])]
noncomputable abbrev p_698 : List (List Nat) := [[118, 97, 108, 117, 101], [111, 102], [116, 111], [108, 105, 109, 105, 116, 115]]
/-- convert -/
noncomputable def b_705 : List XS := [.ite (.cmp (.name [111, 102]) [.Eq] [(.name [116, 111])]) [.ret (.name [118, 97, 108, 117, 101])] [], .ite (.bool .Or [(.cmp (.name [111, 102]) [.Eq] [(.const (.int (4)))]), (.cmp (.name [111, 102]) [.Eq] [(.const (.int (5)))]), (.cmp (.name [116, 111]) [.Eq] [(.const (.int (4)))]), (.cmp (.name [116, 111]) [.Eq] [(.const (.int (5)))])]) [.raise [110, 111, 32, 115, 117, 99, 104, 32, 99, 111, 110, 118, 101, 114, 115, 105, 111, 110]] [], .ite (.cmp (.name [116, 111]) [.Eq] [(.const (.int (3)))]) [.ret (.tup [(.call (.const (.con 698)) [(.name [118, 97, 108, 117, 101]), (.name [111, 102]), (.const (.int (1))), (.name [108, 105, 109, 105, 116, 115])]), (.const (.tup [(.int (0)), (.int (0))]))])] [], .ite (.bool .Or [(.cmp (.name [116, 111]) [.Eq] [(.const (.int (1)))]), (.cmp (.name [116, 111]) [.Eq] [(.const (.int (2)))])]) [.ret (.call (.const (.con 698)) [(.name [118, 97, 108, 117, 101]), (.name [111, 102]), (.name [116, 111]), (.name [108, 105, 109, 105, 116, 115])])] [], .ite (.cmp (.name [111, 102]) [.Eq] [(.const (.int (3)))]) [.asg (.name [118, 97, 108, 117, 101]) (.sub (.name [118, 97, 108, 117, 101]) (.const (.int (0))))] [], .ret (.call (.const (.con 663)) [(.call (.const (.con 152)) [(.name [118, 97, 108, 117, 101])]), (.attr (.name [108, 105, 109, 105, 116, 115]) [119, 105, 100, 116, 104])])]
noncomputable abbrev p_705 : List (List Nat) := [[118, 97, 108, 117, 101], [111, 102], [116, 111], [108, 105, 109, 105, 116, 115]]
/-- as_int -/
noncomputable def b_719 : List XS := [.ret (.call (.const (.con 705)) [(.sub (.name [118, 97, 108, 117, 101, 115]) (.const (.int (0)))), (.sub (.name [107, 105, 110, 100, 115]) (.const (.int (0)))), (.const (.int (0))), (.name [108, 105, 109, 105, 116, 115])])]
noncomputable abbrev p_719 : List (List Nat) := [[107, 105, 110, 100, 115], [118, 97, 108, 117, 101, 115], [108, 105, 109, 105, 116, 115]]
/-- without_sign -/
noncomputable def b_775 : List XS := [.ite (.cmp (.sub (.name [107, 105, 110, 100, 115]) (.const (.int (0)))) [.Eq] [(.const (.int (0)))]) [.ret (.call (.const (.con 663)) [(.bcall .abs [(.sub (.name [118, 97, 108, 117, 101, 115]) (.const (.int (0))))]), (.attr (.name [108, 105, 109, 105, 116, 115]) [119, 105, 100, 116, 104])])] [], .ret (.tup [(.bcall .abs [(.sub (.sub (.name [118, 97, 108, 117, 101, 115]) (.const (.int (0)))) (.const (.int (0))))]), (.sub (.sub (.name [118, 97, 108, 117, 101, 115]) (.const (.int (0)))) (.const (.int (1))))])]
noncomputable abbrev p_775 : List (List Nat) := [[107, 105, 110, 100, 115], [118, 97, 108, 117, 101, 115], [108, 105, 109, 105, 116, 115]]
/-- rest_of -/
noncomputable def b_782 : List XS := [.asg (.tup [[120], [121]]) (.name [118, 97, 108, 117, 101, 115]), .ite (.cmp (.sub (.name [107, 105, 110, 100, 115]) (.const (.int (0)))) [.Eq] [(.const (.int (0)))]) [.ite (.cmp (.name [121]) [.Eq] [(.const (.int (0)))]) [.raise [100, 105, 118, 105, 115, 105, 111, 110, 32, 98, 121, 32, 122, 101, 114, 111]] [], .ret (.bin .Sub (.name [120]) (.bin .Mult (.call (.const (.con 670)) [(.name [120]), (.name [121])]) (.name [121])))] [], .ite (.cmp (.sub (.name [121]) (.const (.int (0)))) [.Eq] [(.const (.int (0)))]) [.raise [100, 105, 118, 105, 115, 105, 111, 110, 32, 98, 121, 32, 122, 101, 114, 111]] [], .asg (.name [108, 111, 119]) (.bcall .min [(.sub (.name [120]) (.const (.int (1)))), (.sub (.name [121]) (.const (.int (1))))]), .asg (.name [111, 118, 101, 114]) (.bin .Mult (.sub (.name [120]) (.const (.int (0)))) (.bin .Pow (.const (.int (10))) (.bin .Sub (.sub (.name [120]) (.const (.int (1)))) (.name [108, 111, 119])))), .asg (.name [117, 110, 100, 101, 114]) (.bin .Mult (.sub (.name [121]) (.const (.int (0)))) (.bin .Pow (.const (.int (10))) (.bin .Sub (.sub (.name [121]) (.const (.int (1)))) (.name [108, 111, 119])))), .ret (.call (.const (.con 89)) [(.bin .Sub (.name [111, 118, 101, 114]) (.bin .Mult (.call (.const (.con 670)) [(.name [111, 118, 101, 114]), (.name [117, 110, 100, 101, 114])]) (.name [117, 110, 100, 101, 114]))), (.name [108, 111, 119]), (.call (.const (.con 159)) [(.sub (.name [107, 105, 110, 100, 115]) (.const (.int (0)))), (.name [108, 105, 109, 105, 116, 115])]), (.attr (.name [108, 105, 109, 105, 116, 115]) [116, 111, 112, 95, 101, 120, 112, 111, 110, 101, 110, 116])])]
noncomputable abbrev p_782 : List (List Nat) := [[107, 105, 110, 100, 115], [118, 97, 108, 117, 101, 115], [108, 105, 109, 105, 116, 115]]
/-- with_sign -/
noncomputable def b_789 : List XS := [.asg (.tup [[120], [121]]) (.name [118, 97, 108, 117, 101, 115]), .ite (.cmp (.sub (.name [107, 105, 110, 100, 115]) (.const (.int (0)))) [.Eq] [(.const (.int (0)))]) [.ret (.call (.const (.con 663)) [(.ite (.cmp (.name [121]) [.GtE] [(.const (.int (0)))]) (.bcall .abs [(.name [120])]) (.un .USub (.bcall .abs [(.name [120])]))), (.attr (.name [108, 105, 109, 105, 116, 115]) [119, 105, 100, 116, 104])])] [], .asg (.name [115, 105, 122, 101]) (.tup [(.bcall .abs [(.sub (.name [120]) (.const (.int (0))))]), (.sub (.name [120]) (.const (.int (1))))]), .ret (.ite (.cmp (.sub (.name [121]) (.const (.int (0)))) [.GtE] [(.const (.int (0)))]) (.name [115, 105, 122, 101]) (.call (.const (.con 110)) [(.name [115, 105, 122, 101])]))]
noncomputable abbrev p_789 : List (List Nat) := [[107, 105, 110, 100, 115], [118, 97, 108, 117, 101, 115], [108, 105, 109, 105, 116, 115]]
/-- compare_numbers -/
noncomputable def b_796 : List XS := [.ite (.cmp (.name [107, 105, 110, 100]) [.Eq] [(.const (.int (0)))]) [.ret (.call (.const (.con 677)) [(.name [120]), (.name [121])])] [], .ret (.call (.const (.con 138)) [(.name [120]), (.name [121])])]
noncomputable abbrev p_796 : List (List Nat) := [[107, 105, 110, 100], [120], [121]]
/-- difference -/
noncomputable def b_803 : List XS := [.asg (.tup [[120], [121]]) (.name [118, 97, 108, 117, 101, 115]), .ite (.cmp (.call (.const (.con 796)) [(.sub (.name [107, 105, 110, 100, 115]) (.const (.int (0)))), (.name [120]), (.name [121])]) [.LtE] [(.const (.int (0)))]) [.ret (.ite (.cmp (.sub (.name [107, 105, 110, 100, 115]) (.const (.int (0)))) [.Eq] [(.const (.int (0)))]) (.const (.int (0))) (.const (.tup [(.int (0)), (.int (0))])))] [], .ite (.cmp (.sub (.name [107, 105, 110, 100, 115]) (.const (.int (0)))) [.Eq] [(.const (.int (0)))]) [.ret (.call (.const (.con 663)) [(.bin .Sub (.name [120]) (.name [121])), (.attr (.name [108, 105, 109, 105, 116, 115]) [119, 105, 100, 116, 104])])] [], .ret (.call (.const (.con 124)) [(.name [120]), (.name [121]), (.call (.const (.con 159)) [(.sub (.name [107, 105, 110, 100, 115]) (.const (.int (0)))), (.name [108, 105, 109, 105, 116, 115])]), (.attr (.name [108, 105, 109, 105, 116, 115]) [116, 111, 112, 95, 101, 120, 112, 111, 110, 101, 110, 116])])]
noncomputable abbrev p_803 : List (List Nat) := [[107, 105, 110, 100, 115], [118, 97, 108, 117, 101, 115], [108, 105, 109, 105, 116, 115]]
/-- extreme -/
noncomputable def b_817 : List XS := [.asg (.name [98, 101, 115, 116]) (.sub (.name [118, 97, 108, 117, 101, 115]) (.const (.int (0)))), .loop [118, 97, 108, 117, 101] (.name [118, 97, 108, 117, 101, 115]) [.ite (.cmp (.call (.const (.con 796)) [(.name [107, 105, 110, 100]), (.name [118, 97, 108, 117, 101]), (.name [98, 101, 115, 116])]) [.Eq] [(.name [111, 114, 100, 101, 114])]) [.asg (.name [98, 101, 115, 116]) (.name [118, 97, 108, 117, 101])] []], .ret (.name [98, 101, 115, 116])]
noncomputable abbrev p_817 : List (List Nat) := [[107, 105, 110, 100], [118, 97, 108, 117, 101, 115], [111, 114, 100, 101, 114]]
/-- greatest -/
noncomputable def b_824 : List XS := [.ret (.call (.const (.con 817)) [(.sub (.name [107, 105, 110, 100, 115]) (.const (.int (0)))), (.name [118, 97, 108, 117, 101, 115]), (.const (.int (1)))])]
noncomputable abbrev p_824 : List (List Nat) := [[107, 105, 110, 100, 115], [118, 97, 108, 117, 101, 115], [108, 105, 109, 105, 116, 115]]
/-- least -/
noncomputable def b_831 : List XS := [.ret (.call (.const (.con 817)) [(.sub (.name [107, 105, 110, 100, 115]) (.const (.int (0)))), (.name [118, 97, 108, 117, 101, 115]), (.un .USub (.const (.int (1))))])]
noncomputable abbrev p_831 : List (List Nat) := [[107, 105, 110, 100, 115], [118, 97, 108, 117, 101, 115], [108, 105, 109, 105, 116, 115]]
/-- number_operations -/
noncomputable def b_880 : List XS := [.ret (.dict [([73, 78, 84], (.const (.con 719))), ([82, 69, 65, 76], (.const (.con 726))), ([68, 66, 76, 69], (.const (.con 733))), ([67, 77, 80, 76, 88], (.const (.con 740))), ([67, 67, 77, 80, 76, 88], (.const (.con 747))), ([65, 73, 78, 84], (.const (.con 754))), ([65, 78, 73, 78, 84], (.const (.con 761))), ([78, 73, 78, 84], (.const (.con 768))), ([65, 66, 83], (.const (.con 775))), ([77, 79, 68], (.const (.con 782))), ([83, 73, 71, 78], (.const (.con 789))), ([68, 73, 77], (.const (.con 803))), ([68, 80, 82, 79, 68], (.const (.con 810))), ([77, 65, 88], (.const (.con 824))), ([77, 73, 78], (.const (.con 831))), ([65, 77, 65, 88, 48], (.const (.con 838))), ([65, 77, 73, 78, 48], (.const (.con 845))), ([77, 65, 88, 49], (.const (.con 852))), ([77, 73, 78, 49], (.const (.con 859))), ([65, 73, 77, 65, 71], (.const (.con 866))), ([67, 79, 78, 74, 71], (.const (.con 873)))])]
noncomputable abbrev p_880 : List (List Nat) := []
/-- code_of -/
noncomputable def b_887 : List XS := [.ite (.cmp (.bcall .len [(.sub (.name [118, 97, 108, 117, 101, 115]) (.const (.int (0))))]) [.NotEq] [(.const (.int (1)))]) [.raise [73, 67, 72, 65, 82, 32, 111, 102, 32, 109, 111, 114, 101, 32, 116, 104, 97, 110, 32, 111, 110, 101, 32, 115, 105, 103, 110]] [], .ret (.bcall .ord [(.sub (.name [118, 97, 108, 117, 101, 115]) (.const (.int (0))))])]
noncomputable abbrev p_887 : List (List Nat) := [[107, 105, 110, 100, 115], [118, 97, 108, 117, 101, 115], [108, 105, 109, 105, 116, 115]]
/-- sign_of_code -/
noncomputable def b_894 : List XS := [.ite (.bool .Or [(.cmp (.sub (.name [118, 97, 108, 117, 101, 115]) (.const (.int (0)))) [.Lt] [(.const (.int (0)))]), (.cmp (.sub (.name [118, 97, 108, 117, 101, 115]) (.const (.int (0)))) [.GtE] [(.const (.int (256)))])]) [.raise [67, 72, 65, 82, 32, 111, 102, 32, 110, 111, 32, 99, 111, 100, 101]] [], .ret (.bcall .chr [(.sub (.name [118, 97, 108, 117, 101, 115]) (.const (.int (0))))])]
noncomputable abbrev p_894 : List (List Nat) := [[107, 105, 110, 100, 115], [118, 97, 108, 117, 101, 115], [108, 105, 109, 105, 116, 115]]
/-- length_of -/
noncomputable def b_901 : List XS := [.ret (.bcall .len [(.sub (.name [118, 97, 108, 117, 101, 115]) (.const (.int (0))))])]
noncomputable abbrev p_901 : List (List Nat) := [[107, 105, 110, 100, 115], [118, 97, 108, 117, 101, 115], [108, 105, 109, 105, 116, 115]]
/-- place_of_text -/
noncomputable def b_908 : List XS := [.ret (.bin .Add (.meth (.sub (.name [118, 97, 108, 117, 101, 115]) (.const (.int (0)))) .find [(.sub (.name [118, 97, 108, 117, 101, 115]) (.const (.int (1))))]) (.const (.int (1))))]
noncomputable abbrev p_908 : List (List Nat) := [[107, 105, 110, 100, 115], [118, 97, 108, 117, 101, 115], [108, 105, 109, 105, 116, 115]]
/-- is_not_below -/
noncomputable def b_915 : List XS := [.ret (.cmp (.call (.const (.con 684)) [(.sub (.name [118, 97, 108, 117, 101, 115]) (.const (.int (0)))), (.sub (.name [118, 97, 108, 117, 101, 115]) (.const (.int (1))))]) [.GtE] [(.const (.int (0)))])]
noncomputable abbrev p_915 : List (List Nat) := [[107, 105, 110, 100, 115], [118, 97, 108, 117, 101, 115], [108, 105, 109, 105, 116, 115]]
/-- is_above -/
noncomputable def b_922 : List XS := [.ret (.cmp (.call (.const (.con 684)) [(.sub (.name [118, 97, 108, 117, 101, 115]) (.const (.int (0)))), (.sub (.name [118, 97, 108, 117, 101, 115]) (.const (.int (1))))]) [.Gt] [(.const (.int (0)))])]
noncomputable abbrev p_922 : List (List Nat) := [[107, 105, 110, 100, 115], [118, 97, 108, 117, 101, 115], [108, 105, 109, 105, 116, 115]]
/-- is_not_above -/
noncomputable def b_929 : List XS := [.ret (.cmp (.call (.const (.con 684)) [(.sub (.name [118, 97, 108, 117, 101, 115]) (.const (.int (0)))), (.sub (.name [118, 97, 108, 117, 101, 115]) (.const (.int (1))))]) [.LtE] [(.const (.int (0)))])]
noncomputable abbrev p_929 : List (List Nat) := [[107, 105, 110, 100, 115], [118, 97, 108, 117, 101, 115], [108, 105, 109, 105, 116, 115]]
/-- is_below -/
noncomputable def b_936 : List XS := [.ret (.cmp (.call (.const (.con 684)) [(.sub (.name [118, 97, 108, 117, 101, 115]) (.const (.int (0)))), (.sub (.name [118, 97, 108, 117, 101, 115]) (.const (.int (1))))]) [.Lt] [(.const (.int (0)))])]
noncomputable abbrev p_936 : List (List Nat) := [[107, 105, 110, 100, 115], [118, 97, 108, 117, 101, 115], [108, 105, 109, 105, 116, 115]]
/-- text_operations -/
noncomputable def b_943 : List XS := [.ret (.dict [([73, 67, 72, 65, 82], (.const (.con 887))), ([67, 72, 65, 82], (.const (.con 894))), ([76, 69, 78], (.const (.con 901))), ([73, 78, 68, 69, 88], (.const (.con 908))), ([76, 71, 69], (.const (.con 915))), ([76, 71, 84], (.const (.con 922))), ([76, 76, 69], (.const (.con 929))), ([76, 76, 84], (.const (.con 936)))])]
noncomputable abbrev p_943 : List (List Nat) := []
/-- all_intrinsics -/
noncomputable def b_950 : List XS := [.asg (.name [102, 111, 117, 110, 100]) (.call (.const (.con 880)) []), .loop [103, 114, 111, 117, 112] (.lst [(.call (.const (.con 943)) []), (.call (.const (.con 607)) []), (.call (.const (.con 656)) [])]) [.loop [110, 97, 109, 101] (.name [103, 114, 111, 117, 112]) [.asg (.sub (.name [102, 111, 117, 110, 100]) (.name [110, 97, 109, 101])) (.sub (.name [103, 114, 111, 117, 112]) (.name [110, 97, 109, 101]))]], .ret (.name [102, 111, 117, 110, 100])]
noncomputable abbrev p_950 : List (List Nat) := []
/-- value_by -/
noncomputable def b_957 : List XS := [.asg (.name [112, 108, 97, 99, 101]) (.name [110, 97, 109, 101]), .ite (.bool .And [(.cmp (.sub (.name [107, 105, 110, 100, 115]) (.const (.int (0)))) [.Eq] [(.const (.int (3)))]), (.cmp (.bin .Add (.const (.str [67])) (.name [110, 97, 109, 101])) [.In] [(.name [116, 97, 98, 108, 101])])]) [.asg (.name [112, 108, 97, 99, 101]) (.bin .Add (.const (.str [67])) (.name [110, 97, 109, 101]))] [], .ite (.cmp (.name [112, 108, 97, 99, 101]) [.NotIn] [(.name [116, 97, 98, 108, 101])]) [.raise [110, 111, 32, 105, 110, 116, 114, 105, 110, 115, 105, 99, 32, 102, 117, 110, 99, 116, 105, 111, 110]] [], .ret (.call (.sub (.name [116, 97, 98, 108, 101]) (.name [112, 108, 97, 99, 101])) [(.name [107, 105, 110, 100, 115]), (.name [118, 97, 108, 117, 101, 115]), (.name [108, 105, 109, 105, 116, 115])])]
noncomputable abbrev p_957 : List (List Nat) := [[116, 97, 98, 108, 101], [110, 97, 109, 101], [107, 105, 110, 100, 115], [118, 97, 108, 117, 101, 115], [108, 105, 109, 105, 116, 115]]
/-- intrinsic_value -/
noncomputable def b_964 : List XS := [.ret (.call (.const (.con 957)) [(.call (.const (.con 950)) []), (.name [110, 97, 109, 101]), (.name [107, 105, 110, 100, 115]), (.name [118, 97, 108, 117, 101, 115]), (.name [108, 105, 109, 105, 116, 115])])]
noncomputable abbrev p_964 : List (List Nat) := [[110, 97, 109, 101], [107, 105, 110, 100, 115], [118, 97, 108, 117, 101, 115], [108, 105, 109, 105, 116, 115]]
/-- math_operations -/
noncomputable def b_607 : List XS := [.ret (.dict [([83, 81, 82, 84], (.const (.con 509))), ([69, 88, 80], (.const (.con 516))), ([76, 79, 71], (.const (.con 523))), ([76, 79, 71, 49, 48], (.const (.con 530))), ([83, 73, 78], (.const (.con 537))), ([67, 79, 83], (.const (.con 544))), ([84, 65, 78], (.const (.con 551))), ([65, 83, 73, 78], (.const (.con 558))), ([65, 67, 79, 83], (.const (.con 565))), ([65, 84, 65, 78], (.const (.con 572))), ([65, 84, 65, 78, 50], (.const (.con 579))), ([83, 73, 78, 72], (.const (.con 586))), ([67, 79, 83, 72], (.const (.con 593))), ([84, 65, 78, 72], (.const (.con 600)))])]
noncomputable abbrev p_607 : List (List Nat) := []
/-- complex_operations -/
noncomputable def b_656 : List XS := [.ret (.dict [([67, 65, 66, 83], (.const (.con 614))), ([67, 83, 81, 82, 84], (.const (.con 621))), ([67, 69, 88, 80], (.const (.con 628))), ([67, 76, 79, 71], (.const (.con 635))), ([67, 83, 73, 78], (.const (.con 642))), ([67, 67, 79, 83], (.const (.con 649)))])]
noncomputable abbrev p_656 : List (List Nat) := []
/-- need_units -/
noncomputable def b_1013 : List XS := [.ite (.bool .Or [(.cmp (.name [97, 100, 100, 114, 101, 115, 115]) [.Lt] [(.const (.int (0)))]), (.cmp (.bin .Add (.name [97, 100, 100, 114, 101, 115, 115]) (.name [99, 111, 117, 110, 116])) [.Gt] [(.bcall .len [(.name [99, 101, 108, 108, 115])])])]) [.raise [115, 116, 111, 114, 97, 103, 101]] []]
noncomputable abbrev p_1013 : List (List Nat) := [[99, 101, 108, 108, 115], [97, 100, 100, 114, 101, 115, 115], [99, 111, 117, 110, 116]]
/-- read_cell -/
noncomputable def b_1020 : List XS := [.asg (.name [99, 101, 108, 108]) (.sub (.name [99, 101, 108, 108, 115]) (.name [97, 100, 100, 114, 101, 115, 115])), .ite (.bool .Or [(.cmp (.name [99, 101, 108, 108]) [.Is] [(.const .none)]), (.cmp (.sub (.name [99, 101, 108, 108]) (.const (.int (0)))) [.NotEq] [(.name [116, 97, 103])])]) [.raise [117, 110, 100, 101, 102, 105, 110, 101, 100]] [], .ret (.sub (.name [99, 101, 108, 108]) (.const (.int (1))))]
noncomputable abbrev p_1020 : List (List Nat) := [[99, 101, 108, 108, 115], [97, 100, 100, 114, 101, 115, 115], [116, 97, 103]]
/-- load_number -/
noncomputable def b_1027 : List XS := [.expr (.call (.const (.con 1013)) [(.name [99, 101, 108, 108, 115]), (.name [97, 100, 100, 114, 101, 115, 115]), (.call (.const (.con 60)) [(.name [107, 105, 110, 100])])]), .ite (.cmp (.name [107, 105, 110, 100]) [.Eq] [(.const (.int (3)))]) [.ret (.tup [(.call (.const (.con 1020)) [(.name [99, 101, 108, 108, 115]), (.name [97, 100, 100, 114, 101, 115, 115]), (.const (.int (1)))]), (.call (.const (.con 1020)) [(.name [99, 101, 108, 108, 115]), (.bin .Add (.name [97, 100, 100, 114, 101, 115, 115]) (.const (.int (1)))), (.const (.int (1)))])])] [], .asg (.name [118, 97, 108, 117, 101]) (.call (.const (.con 1020)) [(.name [99, 101, 108, 108, 115]), (.name [97, 100, 100, 114, 101, 115, 115]), (.name [107, 105, 110, 100])]), .ite (.cmp (.name [107, 105, 110, 100]) [.Eq] [(.const (.int (2)))]) [.expr (.call (.const (.con 1020)) [(.name [99, 101, 108, 108, 115]), (.bin .Add (.name [97, 100, 100, 114, 101, 115, 115]) (.const (.int (1)))), (.const (.int (6)))])] [], .ret (.name [118, 97, 108, 117, 101])]
noncomputable abbrev p_1027 : List (List Nat) := [[99, 101, 108, 108, 115], [107, 105, 110, 100], [97, 100, 100, 114, 101, 115, 115]]
/-- store_number -/
noncomputable def b_1034 : List XS := [.expr (.call (.const (.con 1013)) [(.name [99, 101, 108, 108, 115]), (.name [97, 100, 100, 114, 101, 115, 115]), (.call (.const (.con 60)) [(.name [107, 105, 110, 100])])]), .ite (.cmp (.name [107, 105, 110, 100]) [.Eq] [(.const (.int (3)))]) [.asg (.sub (.name [99, 101, 108, 108, 115]) (.name [97, 100, 100, 114, 101, 115, 115])) (.tup [(.const (.int (1))), (.sub (.name [118, 97, 108, 117, 101]) (.const (.int (0))))]), .asg (.sub (.name [99, 101, 108, 108, 115]) (.bin .Add (.name [97, 100, 100, 114, 101, 115, 115]) (.const (.int (1))))) (.tup [(.const (.int (1))), (.sub (.name [118, 97, 108, 117, 101]) (.const (.int (1))))]), .ret (.const .none)] [], .asg (.sub (.name [99, 101, 108, 108, 115]) (.name [97, 100, 100, 114, 101, 115, 115])) (.tup [(.name [107, 105, 110, 100]), (.name [118, 97, 108, 117, 101])]), .ite (.cmp (.name [107, 105, 110, 100]) [.Eq] [(.const (.int (2)))]) [.asg (.sub (.name [99, 101, 108, 108, 115]) (.bin .Add (.name [97, 100, 100, 114, 101, 115, 115]) (.const (.int (1))))) (.tup [(.const (.int (6))), (.name [118, 97, 108, 117, 101])])] []]
noncomputable abbrev p_1034 : List (List Nat) := [[99, 101, 108, 108, 115], [107, 105, 110, 100], [97, 100, 100, 114, 101, 115, 115], [118, 97, 108, 117, 101]]
/-- load_text -/
noncomputable def b_1041 : List XS := [.expr (.call (.const (.con 1013)) [(.name [99, 101, 108, 108, 115]), (.name [97, 100, 100, 114, 101, 115, 115]), (.name [108, 101, 110, 103, 116, 104])]), .asg (.name [115, 105, 103, 110, 115]) (.slc (.name [99, 101, 108, 108, 115]) (some (.name [97, 100, 100, 114, 101, 115, 115])) (some (.bin .Add (.name [97, 100, 100, 114, 101, 115, 115]) (.name [108, 101, 110, 103, 116, 104])))), .ite (.cmp (.const .none) [.In] [(.name [115, 105, 103, 110, 115])]) [.raise [117, 110, 100, 101, 102, 105, 110, 101, 100]] [], .ret (.meth (.const (.str [])) .join [(.name [115, 105, 103, 110, 115])])]
noncomputable abbrev p_1041 : List (List Nat) := [[99, 101, 108, 108, 115], [97, 100, 100, 114, 101, 115, 115], [108, 101, 110, 103, 116, 104]]
/-- store_text -/
noncomputable def b_1048 : List XS := [.expr (.call (.const (.con 1013)) [(.name [99, 101, 108, 108, 115]), (.name [97, 100, 100, 114, 101, 115, 115]), (.bcall .len [(.name [116, 101, 120, 116])])]), .loop [107] (.bcall .range [(.bcall .len [(.name [116, 101, 120, 116])])]) [.asg (.sub (.name [99, 101, 108, 108, 115]) (.bin .Add (.name [97, 100, 100, 114, 101, 115, 115]) (.name [107]))) (.sub (.name [116, 101, 120, 116]) (.name [107]))]]
noncomputable abbrev p_1048 : List (List Nat) := [[99, 101, 108, 108, 115], [97, 100, 100, 114, 101, 115, 115], [116, 101, 120, 116]]
/-- pad -/
noncomputable def b_1055 : List XS := [.ret (.bin .Add (.slc (.name [116, 101, 120, 116]) none (some (.name [108, 101, 110, 103, 116, 104]))) (.bin .Mult (.const (.str [32])) (.bin .Sub (.name [108, 101, 110, 103, 116, 104]) (.bcall .len [(.name [116, 101, 120, 116])]))))]
noncomputable abbrev p_1055 : List (List Nat) := [[116, 101, 120, 116], [108, 101, 110, 103, 116, 104]]
/-- unit_size -/
noncomputable def b_1062 : List XS := [.ite (.cmp (.name [107, 105, 110, 100]) [.Eq] [(.const (.int (5)))]) [.ret (.name [108, 101, 110, 103, 116, 104])] [], .ret (.call (.const (.con 60)) [(.name [107, 105, 110, 100])])]
noncomputable abbrev p_1062 : List (List Nat) := [[107, 105, 110, 100], [108, 101, 110, 103, 116, 104]]
/-- element_place -/
noncomputable def b_1069 : List XS := [.asg (.tup [[107, 105, 110, 100], [97, 100, 100, 114, 101, 115, 115], [108, 101, 110, 103, 116, 104], [100, 105, 109, 115]]) (.name [112, 108, 97, 99, 101]), .ite (.cmp (.bcall .len [(.name [115, 117, 98, 115, 99, 114, 105, 112, 116, 115])]) [.NotEq] [(.bcall .len [(.name [100, 105, 109, 115])])]) [.raise [115, 117, 98, 115, 99, 114, 105, 112, 116]] [], .asg (.name [111, 102, 102, 115, 101, 116]) (.const (.int (0))), .asg (.name [115, 116, 114, 105, 100, 101]) (.const (.int (1))), .loop [107] (.bcall .range [(.bcall .len [(.name [100, 105, 109, 115])])]) [.asg (.tup [[108, 111, 119], [104, 105, 103, 104]]) (.sub (.name [100, 105, 109, 115]) (.name [107])), .ite (.bool .Or [(.cmp (.sub (.name [115, 117, 98, 115, 99, 114, 105, 112, 116, 115]) (.name [107])) [.Lt] [(.name [108, 111, 119])]), (.bool .And [(.cmp (.name [104, 105, 103, 104]) [.IsNot] [(.const .none)]), (.cmp (.sub (.name [115, 117, 98, 115, 99, 114, 105, 112, 116, 115]) (.name [107])) [.Gt] [(.name [104, 105, 103, 104])])])]) [.raise [115, 117, 98, 115, 99, 114, 105, 112, 116]] [], .aug [111, 102, 102, 115, 101, 116] .Add (.bin .Mult (.bin .Sub (.sub (.name [115, 117, 98, 115, 99, 114, 105, 112, 116, 115]) (.name [107])) (.name [108, 111, 119])) (.name [115, 116, 114, 105, 100, 101])), .ite (.cmp (.name [104, 105, 103, 104]) [.IsNot] [(.const .none)]) [.aug [115, 116, 114, 105, 100, 101] .Mult (.bin .Add (.bin .Sub (.name [104, 105, 103, 104]) (.name [108, 111, 119])) (.const (.int (1))))] []], .ret (.tup [(.name [107, 105, 110, 100]), (.bin .Add (.name [97, 100, 100, 114, 101, 115, 115]) (.bin .Mult (.name [111, 102, 102, 115, 101, 116]) (.call (.const (.con 1062)) [(.name [107, 105, 110, 100]), (.name [108, 101, 110, 103, 116, 104])]))), (.name [108, 101, 110, 103, 116, 104]), (.tup [])])]
noncomputable abbrev p_1069 : List (List Nat) := [[112, 108, 97, 99, 101], [115, 117, 98, 115, 99, 114, 105, 112, 116, 115]]
/-- sub_place -/
noncomputable def b_1076 : List XS := [.asg (.name [102, 105, 114, 115, 116]) (.ite (.cmp (.name [108, 111]) [.Is] [(.const .none)]) (.const (.int (1))) (.name [108, 111])), .asg (.name [108, 97, 115, 116]) (.ite (.cmp (.name [104, 105]) [.Is] [(.const .none)]) (.sub (.name [112, 108, 97, 99, 101]) (.const (.int (2)))) (.name [104, 105])), .ite (.bool .Or [(.cmp (.name [102, 105, 114, 115, 116]) [.Lt] [(.const (.int (1)))]), (.cmp (.name [108, 97, 115, 116]) [.Lt] [(.name [102, 105, 114, 115, 116])]), (.cmp (.name [108, 97, 115, 116]) [.Gt] [(.sub (.name [112, 108, 97, 99, 101]) (.const (.int (2))))])]) [.raise [115, 117, 98, 115, 116, 114, 105, 110, 103]] [], .ret (.tup [(.const (.int (5))), (.bin .Sub (.bin .Add (.sub (.name [112, 108, 97, 99, 101]) (.const (.int (1)))) (.name [102, 105, 114, 115, 116])) (.const (.int (1)))), (.bin .Add (.bin .Sub (.name [108, 97, 115, 116]) (.name [102, 105, 114, 115, 116])) (.const (.int (1)))), (.tup [])])]
noncomputable abbrev p_1076 : List (List Nat) := [[112, 108, 97, 99, 101], [108, 111], [104, 105]]
/-- evaluate -/
noncomputable def b_1104 : List XS := [.ite (.cmp (.sub (.name [116, 114, 101, 101]) (.const (.int (0)))) [.NotIn] [(.attr (.name [114, 117, 110]) [101, 120, 112, 114, 101, 115, 115, 105, 111, 110, 115])]) [.raise [110, 111, 32, 115, 117, 99, 104, 32, 101, 120, 112, 114, 101, 115, 115, 105, 111, 110]] [], .ret (.call (.sub (.attr (.name [114, 117, 110]) [101, 120, 112, 114, 101, 115, 115, 105, 111, 110, 115]) (.sub (.name [116, 114, 101, 101]) (.const (.int (0))))) [(.name [114, 117, 110]), (.name [116, 114, 101, 101])])]
noncomputable abbrev p_1104 : List (List Nat) := [[114, 117, 110], [116, 114, 101, 101]]
/-- named_place -/
noncomputable def b_1111 : List XS := [.asg (.name [102, 111, 117, 110, 100]) (.meth (.attr (.name [114, 117, 110]) [102, 114, 97, 109, 101]) .get [(.name [110, 97, 109, 101])]), .ite (.un .Not (.bcall .isinstance [(.name [102, 111, 117, 110, 100]), (.bi .tuple)])) [.raise [97, 32, 110, 97, 109, 101, 32, 119, 105, 116, 104, 111, 117, 116, 32, 97, 32, 112, 108, 97, 99, 101]] [], .ret (.name [102, 111, 117, 110, 100])]
noncomputable abbrev p_1111 : List (List Nat) := [[114, 117, 110], [110, 97, 109, 101]]
/-- bound_of -/
noncomputable def b_1118 : List XS := [.ite (.cmp (.name [116, 114, 101, 101]) [.Is] [(.const .none)]) [.ret (.const .none)] [], .ret (.call (.const (.con 1104)) [(.name [114, 117, 110]), (.name [116, 114, 101, 101])])]
noncomputable abbrev p_1118 : List (List Nat) := [[114, 117, 110], [116, 114, 101, 101]]
/-- part_place -/
noncomputable def b_1125 : List XS := [.asg (.name [98, 97, 115, 101]) (.call (.const (.con 1130)) [(.name [114, 117, 110]), (.sub (.name [116, 114, 101, 101]) (.const (.int (2))))]), .asg (.name [108, 111, 119]) (.call (.const (.con 1118)) [(.name [114, 117, 110]), (.sub (.name [116, 114, 101, 101]) (.const (.int (3))))]), .ret (.call (.const (.con 1076)) [(.name [98, 97, 115, 101]), (.name [108, 111, 119]), (.call (.const (.con 1118)) [(.name [114, 117, 110]), (.sub (.name [116, 114, 101, 101]) (.const (.int (4))))])])]
noncomputable abbrev p_1125 : List (List Nat) := [[114, 117, 110], [116, 114, 101, 101]]
/-- place_of -/
noncomputable def b_1130 : List XS := [.ite (.cmp (.sub (.name [116, 114, 101, 101]) (.const (.int (0)))) [.Eq] [(.const (.str [115, 117, 98, 115, 116, 114]))]) [.ret (.call (.const (.con 1125)) [(.name [114, 117, 110]), (.name [116, 114, 101, 101])])] [], .asg (.name [112, 108, 97, 99, 101]) (.call (.const (.con 1111)) [(.name [114, 117, 110]), (.sub (.name [116, 114, 101, 101]) (.const (.int (2))))]), .ite (.cmp (.sub (.name [116, 114, 101, 101]) (.const (.int (0)))) [.Eq] [(.const (.str [101, 108, 101, 109]))]) [.ret (.call (.const (.con 1069)) [(.name [112, 108, 97, 99, 101]), (.comp (.call (.const (.con 1104)) [(.name [114, 117, 110]), (.name [111, 110, 101])]) [111, 110, 101] [[114, 117, 110]] (.sub (.name [116, 114, 101, 101]) (.const (.int (3)))))])] [], .ret (.name [112, 108, 97, 99, 101])]
noncomputable abbrev p_1130 : List (List Nat) := [[114, 117, 110], [116, 114, 101, 101]]
/-- has_place -/
noncomputable def b_1137 : List XS := [.ret (.cmp (.sub (.name [116, 114, 101, 101]) (.const (.int (0)))) [.In] [(.tup [(.const (.str [118, 97, 114])), (.const (.str [97, 114, 114, 97, 121])), (.const (.str [101, 108, 101, 109])), (.const (.str [115, 117, 98, 115, 116, 114]))])])]
noncomputable abbrev p_1137 : List (List Nat) := [[116, 114, 101, 101]]
/-- eval_const -/
noncomputable def b_1144 : List XS := [.ret (.sub (.name [116, 114, 101, 101]) (.const (.int (2))))]
noncomputable abbrev p_1144 : List (List Nat) := [[114, 117, 110], [116, 114, 101, 101]]
/-- eval_place -/
noncomputable def b_1151 : List XS := [.ret (.meth (.attr (.name [114, 117, 110]) [109, 101, 109, 111, 114, 121]) (.user [108, 111, 97, 100]) [(.call (.const (.con 1130)) [(.name [114, 117, 110]), (.name [116, 114, 101, 101])])])]
noncomputable abbrev p_1151 : List (List Nat) := [[114, 117, 110], [116, 114, 101, 101]]
/-- eval_conv -/
noncomputable def b_1158 : List XS := [.ret (.call (.const (.con 705)) [(.call (.const (.con 1104)) [(.name [114, 117, 110]), (.sub (.name [116, 114, 101, 101]) (.const (.int (2))))]), (.sub (.sub (.name [116, 114, 101, 101]) (.const (.int (2)))) (.const (.int (1)))), (.sub (.name [116, 114, 101, 101]) (.const (.int (1)))), (.attr (.name [114, 117, 110]) [108, 105, 109, 105, 116, 115])])]
noncomputable abbrev p_1158 : List (List Nat) := [[114, 117, 110], [116, 114, 101, 101]]
/-- eval_unary -/
noncomputable def b_1165 : List XS := [.ret (.call (.const (.con 691)) [(.sub (.name [116, 114, 101, 101]) (.const (.int (0)))), (.sub (.name [116, 114, 101, 101]) (.const (.int (1)))), (.call (.const (.con 1104)) [(.name [114, 117, 110]), (.sub (.name [116, 114, 101, 101]) (.const (.int (2))))]), (.attr (.name [114, 117, 110]) [108, 105, 109, 105, 116, 115])])]
noncomputable abbrev p_1165 : List (List Nat) := [[114, 117, 110], [116, 114, 101, 101]]
/-- eval_cat -/
noncomputable def b_1172 : List XS := [.asg (.name [108, 101, 102, 116]) (.call (.const (.con 1104)) [(.name [114, 117, 110]), (.sub (.name [116, 114, 101, 101]) (.const (.int (2))))]), .ret (.bin .Add (.name [108, 101, 102, 116]) (.call (.const (.con 1104)) [(.name [114, 117, 110]), (.sub (.name [116, 114, 101, 101]) (.const (.int (3))))]))]
noncomputable abbrev p_1172 : List (List Nat) := [[114, 117, 110], [116, 114, 101, 101]]
/-- eval_intr -/
noncomputable def b_1177 : List XS := [.ite (.bool .And [(.cmp (.sub (.name [116, 114, 101, 101]) (.const (.int (2)))) [.Eq] [(.const (.str [76, 69, 78]))]), (.call (.const (.con 1137)) [(.sub (.sub (.name [116, 114, 101, 101]) (.const (.int (3)))) (.const (.int (0))))])]) [.ret (.sub (.call (.const (.con 1130)) [(.name [114, 117, 110]), (.sub (.sub (.name [116, 114, 101, 101]) (.const (.int (3)))) (.const (.int (0))))]) (.const (.int (2))))] [], .asg (.name [118, 97, 108, 117, 101, 115]) (.comp (.call (.const (.con 1104)) [(.name [114, 117, 110]), (.name [111, 110, 101])]) [111, 110, 101] [[114, 117, 110]] (.sub (.name [116, 114, 101, 101]) (.const (.int (3))))), .ret (.call (.const (.con 964)) [(.sub (.name [116, 114, 101, 101]) (.const (.int (2)))), (.comp (.sub (.name [111, 110, 101]) (.const (.int (1)))) [111, 110, 101] [] (.sub (.name [116, 114, 101, 101]) (.const (.int (3))))), (.name [118, 97, 108, 117, 101, 115]), (.attr (.name [114, 117, 110]) [108, 105, 109, 105, 116, 115])])]
noncomputable abbrev p_1177 : List (List Nat) := [[114, 117, 110], [116, 114, 101, 101]]
/-- _law_spots -/
noncomputable def b_1206 : List XS := [.ret (.dict [([73], (.tup [(.const (.int (0))), (.const (.int (0))), (.const (.int (0))), (.tup [])])), ([74], (.tup [(.const (.int (0))), (.const (.int (1))), (.const (.int (0))), (.tup [])])), ([78], (.tup [(.const (.int (0))), (.const (.int (2))), (.const (.int (0))), (.tup [(.tup [(.const (.int (1))), (.const (.int (3)))])])])), ([83], (.tup [(.const (.int (5))), (.const (.int (0))), (.const (.int (3))), (.tup [])])), ([84], (.tup [(.const (.int (5))), (.const (.int (3))), (.const (.int (2))), (.tup [(.tup [(.const (.int (1))), (.const (.int (2)))])])])), ([80], (.const (.str [83, 85, 66, 82])))])]
noncomputable abbrev p_1206 : List (List Nat) := []
/-- _law_bite -/
noncomputable def b_1213 : List XS := [.augSub (.name [108, 111, 97, 102]) (.const (.str [101, 97, 116, 101, 110])) .Add (.const (.int (1))), .ite (.cmp (.sub (.name [108, 111, 97, 102]) (.const (.str [101, 97, 116, 101, 110]))) [.LtE] [(.bcall .len [(.sub (.name [108, 111, 97, 102]) (.const (.str [99, 101, 108, 108, 115])))])]) [.ret (.bin .Mod (.sub (.sub (.name [108, 111, 97, 102]) (.const (.str [99, 101, 108, 108, 115]))) (.bin .Sub (.sub (.name [108, 111, 97, 102]) (.const (.str [101, 97, 116, 101, 110]))) (.const (.int (1))))) (.name [112, 105, 101, 99, 101, 115]))] [], .ret (.bin .Mod (.bin .Add (.bin .Mult (.const (.int (2))) (.sub (.name [108, 111, 97, 102]) (.const (.str [101, 97, 116, 101, 110])))) (.bin .FloorDiv (.sub (.name [108, 111, 97, 102]) (.const (.str [101, 97, 116, 101, 110]))) (.const (.int (4))))) (.name [112, 105, 101, 99, 101, 115]))]
noncomputable abbrev p_1213 : List (List Nat) := [[108, 111, 97, 102], [112, 105, 101, 99, 101, 115]]
/-- _law_told -/
noncomputable def b_1220 : List XS := [.augSub (.name [108, 111, 97, 102]) (.const (.str [109, 97, 114, 107])) .Add (.const (.int (1))), .ret (.tup [(.const (.str [116, 101, 108, 108])), (.name [107, 105, 110, 100]), (.sub (.name [108, 111, 97, 102]) (.const (.str [109, 97, 114, 107]))), (.name [118, 97, 108, 117, 101])])]
noncomputable abbrev p_1220 : List (List Nat) := [[108, 111, 97, 102], [107, 105, 110, 100], [118, 97, 108, 117, 101]]
/-- _law_whole -/
noncomputable def b_1227 : List XS := [.asg (.name [119, 97, 121]) (.ite (.cmp (.name [100, 101, 101, 112]) [.Gt] [(.const (.int (0)))]) (.call (.const (.con 1213)) [(.name [108, 111, 97, 102]), (.const (.int (12)))]) (.call (.const (.con 1213)) [(.name [108, 111, 97, 102]), (.const (.int (5)))])), .ite (.cmp (.name [119, 97, 121]) [.Lt] [(.const (.int (2)))]) [.ret (.call (.const (.con 1220)) [(.name [108, 111, 97, 102]), (.const (.int (0))), (.sub (.lst [(.bin .Sub (.call (.const (.con 1213)) [(.name [108, 111, 97, 102]), (.const (.int (9)))]) (.const (.int (4)))), (.const (.int (127))), (.un .USub (.const (.int (128)))), (.const (.int (65)))]) (.call (.const (.con 1213)) [(.name [108, 111, 97, 102]), (.const (.int (4)))]))])] [], .ite (.cmp (.name [119, 97, 121]) [.Eq] [(.const (.int (2)))]) [.ret (.tup [(.const (.str [118, 97, 114])), (.const (.int (0))), (.sub (.const (.str [73, 74, 80, 81])) (.call (.const (.con 1213)) [(.name [108, 111, 97, 102]), (.const (.int (4)))]))])] [], .ite (.cmp (.name [119, 97, 121]) [.Eq] [(.const (.int (3)))]) [.ret (.tup [(.const (.str [101, 108, 101, 109])), (.const (.int (0))), (.const (.str [78])), (.lst [(.call (.const (.con 1220)) [(.name [108, 111, 97, 102]), (.const (.int (0))), (.call (.const (.con 1213)) [(.name [108, 111, 97, 102]), (.const (.int (5)))])])])])] [], .ite (.cmp (.name [119, 97, 121]) [.Eq] [(.const (.int (4)))]) [.ret (.tup [(.const (.str [99, 111, 110, 115, 116])), (.const (.int (0))), (.call (.const (.con 1213)) [(.name [108, 111, 97, 102]), (.const (.int (7)))])])] [], .ite (.cmp (.name [119, 97, 121]) [.Eq] [(.const (.int (5)))]) [.ret (.tup [(.const (.str [110, 101, 103])), (.const (.int (0))), (.call (.const (.con 1227)) [(.name [108, 111, 97, 102]), (.bin .Sub (.name [100, 101, 101, 112]) (.const (.int (1))))])])] [], .ite (.cmp (.name [119, 97, 121]) [.Eq] [(.const (.int (6)))]) [.asg (.rtup [[116, 111, 112], [112, 108, 97, 99, 101, 115]]) (.tup [(.bin .Sub (.call (.const (.con 1213)) [(.name [108, 111, 97, 102]), (.const (.int (400)))]) (.const (.int (200)))), (.bin .Sub (.call (.const (.con 1213)) [(.name [108, 111, 97, 102]), (.const (.int (3)))]) (.const (.int (1))))]), .ret (.tup [(.const (.str [99, 111, 110, 118])), (.const (.int (0))), (.sub (.lst [(.tup [(.const (.str [99, 111, 110, 115, 116])), (.const (.int (1))), (.tup [(.name [116, 111, 112]), (.name [112, 108, 97, 99, 101, 115])])]), (.tup [(.const (.str [99, 111, 110, 118])), (.const (.int (1))), (.call (.const (.con 1227)) [(.name [108, 111, 97, 102]), (.bin .Sub (.name [100, 101, 101, 112]) (.const (.int (1))))])])]) (.call (.const (.con 1213)) [(.name [108, 111, 97, 102]), (.const (.int (2)))]))])] [], .ite (.cmp (.name [119, 97, 121]) [.Eq] [(.const (.int (7)))]) [.ret (.sub (.lst [(.tup [(.const (.str [99, 111, 110, 118])), (.const (.int (0))), (.call (.const (.con 1244)) [(.name [108, 111, 97, 102]), (.bin .Sub (.name [100, 101, 101, 112]) (.const (.int (1))))])]), (.tup [(.const (.str [110, 111, 116, 104, 105, 110, 103])), (.const (.int (0)))])]) (.call (.const (.con 1213)) [(.name [108, 111, 97, 102]), (.const (.int (2)))]))] [], .ret (.call (.const (.con 1232)) [(.name [108, 111, 97, 102]), (.name [100, 101, 101, 112])])]
noncomputable abbrev p_1227 : List (List Nat) := [[108, 111, 97, 102], [100, 101, 101, 112]]
/-- _law_call -/
noncomputable def b_1232 : List XS := [.asg (.name [110, 97, 109, 101]) (.sub (.lst [(.const (.str [65, 66, 83])), (.const (.str [77, 79, 68])), (.const (.str [83, 73, 71, 78])), (.const (.str [68, 73, 77])), (.const (.str [76, 69, 78])), (.const (.str [77, 65, 88])), (.const (.str [77, 73, 78])), (.const (.str [73, 67, 72, 65, 82])), (.const (.str [73, 78, 68, 69, 88])), (.const (.str [73, 78, 84])), (.const (.str [79, 68, 68])), (.const (.str [76, 69, 78]))]) (.call (.const (.con 1213)) [(.name [108, 111, 97, 102]), (.const (.int (12)))])), .ite (.cmp (.name [110, 97, 109, 101]) [.In] [(.tup [(.const (.str [76, 69, 78])), (.const (.str [73, 67, 72, 65, 82]))])]) [.ret (.tup [(.const (.str [105, 110, 116, 114])), (.const (.int (0))), (.name [110, 97, 109, 101]), (.lst [(.call (.const (.con 1237)) [(.name [108, 111, 97, 102]), (.bin .Sub (.name [100, 101, 101, 112]) (.const (.int (1))))])])])] [], .ite (.cmp (.name [110, 97, 109, 101]) [.Eq] [(.const (.str [73, 78, 68, 69, 88]))]) [.ret (.tup [(.const (.str [105, 110, 116, 114])), (.const (.int (0))), (.name [110, 97, 109, 101]), (.lst [(.call (.const (.con 1237)) [(.name [108, 111, 97, 102]), (.bin .Sub (.name [100, 101, 101, 112]) (.const (.int (1))))]), (.call (.const (.con 1237)) [(.name [108, 111, 97, 102]), (.bin .Sub (.name [100, 101, 101, 112]) (.const (.int (1))))])])])] [], .asg (.name [99, 111, 117, 110, 116]) (.ite (.cmp (.name [110, 97, 109, 101]) [.In] [(.tup [(.const (.str [65, 66, 83])), (.const (.str [73, 78, 84])), (.const (.str [79, 68, 68]))])]) (.const (.int (1))) (.const (.int (2)))), .ite (.cmp (.name [110, 97, 109, 101]) [.In] [(.tup [(.const (.str [77, 65, 88])), (.const (.str [77, 73, 78]))])]) [.asg (.name [99, 111, 117, 110, 116]) (.bin .Add (.const (.int (2))) (.call (.const (.con 1213)) [(.name [108, 111, 97, 102]), (.const (.int (2)))]))] [], .ret (.tup [(.const (.str [105, 110, 116, 114])), (.const (.int (0))), (.name [110, 97, 109, 101]), (.comp (.call (.const (.con 1227)) [(.name [108, 111, 97, 102]), (.bin .Sub (.name [100, 101, 101, 112]) (.const (.int (1))))]) [116, 117, 114, 110] [[100, 101, 101, 112], [108, 111, 97, 102]] (.bcall .range [(.name [99, 111, 117, 110, 116])]))])]
noncomputable abbrev p_1232 : List (List Nat) := [[108, 111, 97, 102], [100, 101, 101, 112]]
/-- _law_text -/
noncomputable def b_1237 : List XS := [.asg (.name [119, 97, 121]) (.ite (.cmp (.name [100, 101, 101, 112]) [.Gt] [(.const (.int (0)))]) (.call (.const (.con 1213)) [(.name [108, 111, 97, 102]), (.const (.int (6)))]) (.call (.const (.con 1213)) [(.name [108, 111, 97, 102]), (.const (.int (4)))])), .ite (.cmp (.name [119, 97, 121]) [.Eq] [(.const (.int (0)))]) [.ret (.tup [(.const (.str [118, 97, 114])), (.const (.int (5))), (.const (.str [83]))])] [], .ite (.cmp (.name [119, 97, 121]) [.Eq] [(.const (.int (1)))]) [.ret (.tup [(.const (.str [101, 108, 101, 109])), (.const (.int (5))), (.const (.str [84])), (.lst [(.call (.const (.con 1220)) [(.name [108, 111, 97, 102]), (.const (.int (0))), (.call (.const (.con 1213)) [(.name [108, 111, 97, 102]), (.const (.int (4)))])])])])] [], .ite (.cmp (.name [119, 97, 121]) [.Eq] [(.const (.int (2)))]) [.asg (.name [98, 97, 115, 101]) (.sub (.lst [(.tup [(.const (.str [118, 97, 114])), (.const (.int (5))), (.const (.str [83]))]), (.tup [(.const (.str [101, 108, 101, 109])), (.const (.int (5))), (.const (.str [84])), (.lst [(.tup [(.const (.str [99, 111, 110, 115, 116])), (.const (.int (0))), (.const (.int (1)))])])])]) (.call (.const (.con 1213)) [(.name [108, 111, 97, 102]), (.const (.int (2)))])), .asg (.name [101, 110, 100, 115]) (.comp (.ite (.cmp (.call (.const (.con 1213)) [(.name [108, 111, 97, 102]), (.const (.int (3)))]) [.Eq] [(.const (.int (0)))]) (.const .none) (.call (.const (.con 1220)) [(.name [108, 111, 97, 102]), (.const (.int (0))), (.call (.const (.con 1213)) [(.name [108, 111, 97, 102]), (.const (.int (5)))])])) [116, 117, 114, 110] [[108, 111, 97, 102]] (.bcall .range [(.const (.int (2)))])), .ret (.tup [(.const (.str [115, 117, 98, 115, 116, 114])), (.const (.int (5))), (.name [98, 97, 115, 101]), (.sub (.name [101, 110, 100, 115]) (.const (.int (0)))), (.sub (.name [101, 110, 100, 115]) (.const (.int (1))))])] [], .ite (.cmp (.name [119, 97, 121]) [.Eq] [(.const (.int (3)))]) [.ret (.call (.const (.con 1220)) [(.name [108, 111, 97, 102]), (.const (.int (5))), (.sub (.lst [(.const (.str [65])), (.const (.str [])), (.const (.str [65, 66])), (.const (.str [66, 32])), (.const (.str [98]))]) (.call (.const (.con 1213)) [(.name [108, 111, 97, 102]), (.const (.int (5)))]))])] [], .ite (.cmp (.name [119, 97, 121]) [.Eq] [(.const (.int (4)))]) [.ret (.tup [(.const (.str [105, 110, 116, 114])), (.const (.int (5))), (.const (.str [67, 72, 65, 82])), (.lst [(.call (.const (.con 1227)) [(.name [108, 111, 97, 102]), (.bin .Sub (.name [100, 101, 101, 112]) (.const (.int (1))))])])])] [], .ret (.tup [(.const (.str [99, 97, 116])), (.const (.int (5))), (.call (.const (.con 1237)) [(.name [108, 111, 97, 102]), (.bin .Sub (.name [100, 101, 101, 112]) (.const (.int (1))))]), (.call (.const (.con 1237)) [(.name [108, 111, 97, 102]), (.bin .Sub (.name [100, 101, 101, 112]) (.const (.int (1))))])])]
noncomputable abbrev p_1237 : List (List Nat) := [[108, 111, 97, 102], [100, 101, 101, 112]]
/-- _law_truth -/
noncomputable def b_1244 : List XS := [.asg (.name [119, 97, 121]) (.ite (.cmp (.name [100, 101, 101, 112]) [.Gt] [(.const (.int (0)))]) (.call (.const (.con 1213)) [(.name [108, 111, 97, 102]), (.const (.int (3)))]) (.const (.int (0)))), .ite (.cmp (.name [119, 97, 121]) [.Eq] [(.const (.int (0)))]) [.ret (.call (.const (.con 1220)) [(.name [108, 111, 97, 102]), (.const (.int (4))), (.cmp (.call (.const (.con 1213)) [(.name [108, 111, 97, 102]), (.const (.int (2)))]) [.Eq] [(.const (.int (1)))])])] [], .ite (.cmp (.name [119, 97, 121]) [.Eq] [(.const (.int (1)))]) [.ret (.tup [(.const (.str [110, 111, 116])), (.const (.int (4))), (.call (.const (.con 1244)) [(.name [108, 111, 97, 102]), (.bin .Sub (.name [100, 101, 101, 112]) (.const (.int (1))))])])] [], .asg (.name [110, 97, 109, 101]) (.sub (.lst [(.const (.str [76, 71, 69])), (.const (.str [76, 71, 84])), (.const (.str [76, 76, 69])), (.const (.str [76, 76, 84]))]) (.call (.const (.con 1213)) [(.name [108, 111, 97, 102]), (.const (.int (4)))])), .ret (.tup [(.const (.str [105, 110, 116, 114])), (.const (.int (4))), (.name [110, 97, 109, 101]), (.lst [(.call (.const (.con 1237)) [(.name [108, 111, 97, 102]), (.bin .Sub (.name [100, 101, 101, 112]) (.const (.int (1))))]), (.call (.const (.con 1237)) [(.name [108, 111, 97, 102]), (.bin .Sub (.name [100, 101, 101, 112]) (.const (.int (1))))])])])]
noncomputable abbrev p_1244 : List (List Nat) := [[108, 111, 97, 102], [100, 101, 101, 112]]
/-- _law_kept -/
noncomputable def b_1251 : List XS := [.ret (.ite (.cmp (.un .USub (.const (.int (128)))) [.LtE, .LtE] [(.name [110, 117, 109, 98, 101, 114]), (.const (.int (127)))]) (.name [110, 117, 109, 98, 101, 114]) (.const .none))]
noncomputable abbrev p_1251 : List (List Nat) := [[110, 117, 109, 98, 101, 114]]
/-- _law_part -/
noncomputable def b_1258 : List XS := [.ite (.cmp (.sub (.name [116, 114, 101, 101]) (.const (.int (0)))) [.Eq] [(.const (.str [118, 97, 114]))]) [.ret (.tup [(.const (.str [83])), (.const (.int (0))), (.const (.int (3)))])] [], .ite (.cmp (.sub (.name [116, 114, 101, 101]) (.const (.int (0)))) [.Eq] [(.const (.str [101, 108, 101, 109]))]) [.asg (.name [97, 116]) (.call (.const (.con 1265)) [(.sub (.sub (.name [116, 114, 101, 101]) (.const (.int (3)))) (.const (.int (0)))), (.name [104, 101, 108, 100]), (.name [108, 111, 103])]), .ret (.ite (.cmp (.const (.int (1))) [.LtE, .LtE] [(.name [97, 116]), (.const (.int (2)))]) (.tup [(.const (.str [84])), (.bin .Sub (.bin .Mult (.const (.int (2))) (.name [97, 116])) (.const (.int (2)))), (.bin .Mult (.const (.int (2))) (.name [97, 116]))]) (.const .none))] [], .asg (.name [98, 97, 115, 101]) (.call (.const (.con 1258)) [(.sub (.name [116, 114, 101, 101]) (.const (.int (2)))), (.name [104, 101, 108, 100]), (.name [108, 111, 103])]), .asg (.name [115, 105, 122, 101]) (.bin .Sub (.sub (.name [98, 97, 115, 101]) (.const (.int (2)))) (.sub (.name [98, 97, 115, 101]) (.const (.int (1))))), .asg (.name [108, 111, 119]) (.ite (.cmp (.sub (.name [116, 114, 101, 101]) (.const (.int (3)))) [.Is] [(.const .none)]) (.const (.int (1))) (.call (.const (.con 1265)) [(.sub (.name [116, 114, 101, 101]) (.const (.int (3)))), (.name [104, 101, 108, 100]), (.name [108, 111, 103])])), .asg (.name [104, 105, 103, 104]) (.ite (.cmp (.sub (.name [116, 114, 101, 101]) (.const (.int (4)))) [.Is] [(.const .none)]) (.name [115, 105, 122, 101]) (.call (.const (.con 1265)) [(.sub (.name [116, 114, 101, 101]) (.const (.int (4)))), (.name [104, 101, 108, 100]), (.name [108, 111, 103])])), .ret (.ite (.cmp (.const (.int (1))) [.LtE, .LtE, .LtE] [(.name [108, 111, 119]), (.name [104, 105, 103, 104]), (.name [115, 105, 122, 101])]) (.tup [(.sub (.name [98, 97, 115, 101]) (.const (.int (0)))), (.bin .Sub (.bin .Add (.sub (.name [98, 97, 115, 101]) (.const (.int (1)))) (.name [108, 111, 119])) (.const (.int (1)))), (.bin .Add (.sub (.name [98, 97, 115, 101]) (.const (.int (1)))) (.name [104, 105, 103, 104]))]) (.const .none))]
noncomputable abbrev p_1258 : List (List Nat) := [[116, 114, 101, 101], [104, 101, 108, 100], [108, 111, 103]]
/-- _law_value -/
noncomputable def b_1265 : List XS := [.asg (.rtup [[119, 111, 114, 100], [107, 105, 110, 100]]) (.tup [(.sub (.name [116, 114, 101, 101]) (.const (.int (0)))), (.sub (.name [116, 114, 101, 101]) (.const (.int (1))))]), .ite (.cmp (.name [119, 111, 114, 100]) [.Eq] [(.const (.str [116, 101, 108, 108]))]) [.expr (.meth (.name [108, 111, 103]) .append [(.sub (.name [116, 114, 101, 101]) (.const (.int (2))))]), .ret (.sub (.name [116, 114, 101, 101]) (.const (.int (3))))] [], .ite (.cmp (.name [119, 111, 114, 100]) [.Eq] [(.const (.str [99, 111, 110, 115, 116]))]) [.ret (.sub (.name [116, 114, 101, 101]) (.const (.int (2))))] [], .ite (.bool .Or [(.cmp (.name [119, 111, 114, 100]) [.Eq] [(.const (.str [110, 111, 116, 104, 105, 110, 103]))]), (.bool .And [(.cmp (.name [119, 111, 114, 100]) [.Eq] [(.const (.str [118, 97, 114]))]), (.cmp (.name [107, 105, 110, 100]) [.Eq] [(.const (.int (0)))]), (.cmp (.sub (.name [116, 114, 101, 101]) (.const (.int (2)))) [.NotIn] [(.const (.str [73, 74]))])])]) [.ret (.const .none)] [], .ite (.bool .And [(.cmp (.name [119, 111, 114, 100]) [.Eq] [(.const (.str [118, 97, 114]))]), (.cmp (.name [107, 105, 110, 100]) [.Eq] [(.const (.int (0)))])]) [.ret (.sub (.name [104, 101, 108, 100]) (.sub (.name [116, 114, 101, 101]) (.const (.int (2)))))] [], .ite (.bool .And [(.cmp (.name [119, 111, 114, 100]) [.Eq] [(.const (.str [101, 108, 101, 109]))]), (.cmp (.name [107, 105, 110, 100]) [.Eq] [(.const (.int (0)))])]) [.asg (.name [97, 116]) (.call (.const (.con 1265)) [(.sub (.sub (.name [116, 114, 101, 101]) (.const (.int (3)))) (.const (.int (0)))), (.name [104, 101, 108, 100]), (.name [108, 111, 103])]), .ret (.ite (.cmp (.const (.int (1))) [.LtE, .LtE] [(.name [97, 116]), (.const (.int (3)))]) (.sub (.sub (.name [104, 101, 108, 100]) (.const (.str [78]))) (.bin .Sub (.name [97, 116]) (.const (.int (1))))) (.const .none))] [], .ite (.cmp (.name [119, 111, 114, 100]) [.In] [(.tup [(.const (.str [118, 97, 114])), (.const (.str [101, 108, 101, 109])), (.const (.str [115, 117, 98, 115, 116, 114]))])]) [.asg (.name [112, 97, 114, 116]) (.call (.const (.con 1258)) [(.name [116, 114, 101, 101]), (.name [104, 101, 108, 100]), (.name [108, 111, 103])]), .ite (.cmp (.name [112, 97, 114, 116]) [.Is] [(.const .none)]) [.ret (.const .none)] [], .asg (.name [115, 105, 103, 110, 115]) (.slc (.sub (.name [104, 101, 108, 100]) (.sub (.name [112, 97, 114, 116]) (.const (.int (0))))) (some (.sub (.name [112, 97, 114, 116]) (.const (.int (1))))) (some (.sub (.name [112, 97, 114, 116]) (.const (.int (2)))))), .ret (.ite (.cmp (.const .none) [.In] [(.name [115, 105, 103, 110, 115])]) (.const .none) (.meth (.const (.str [])) .join [(.name [115, 105, 103, 110, 115])]))] [], .ite (.cmp (.name [119, 111, 114, 100]) [.Eq] [(.const (.str [105, 110, 116, 114]))]) [.ret (.call (.const (.con 1272)) [(.name [116, 114, 101, 101]), (.name [104, 101, 108, 100]), (.name [108, 111, 103])])] [], .asg (.name [102, 105, 114, 115, 116]) (.call (.const (.con 1265)) [(.sub (.name [116, 114, 101, 101]) (.const (.int (2)))), (.name [104, 101, 108, 100]), (.name [108, 111, 103])]), .ite (.cmp (.name [102, 105, 114, 115, 116]) [.Is] [(.const .none)]) [.ret (.const .none)] [], .ite (.cmp (.name [119, 111, 114, 100]) [.Eq] [(.const (.str [99, 97, 116]))]) [.asg (.name [115, 101, 99, 111, 110, 100]) (.call (.const (.con 1265)) [(.sub (.name [116, 114, 101, 101]) (.const (.int (3)))), (.name [104, 101, 108, 100]), (.name [108, 111, 103])]), .ret (.ite (.cmp (.name [115, 101, 99, 111, 110, 100]) [.Is] [(.const .none)]) (.const .none) (.bin .Add (.name [102, 105, 114, 115, 116]) (.name [115, 101, 99, 111, 110, 100])))] [], .ite (.cmp (.name [119, 111, 114, 100]) [.Eq] [(.const (.str [110, 101, 103]))]) [.ret (.call (.const (.con 1251)) [(.bin .Sub (.const (.int (0))) (.name [102, 105, 114, 115, 116]))])] [], .ite (.cmp (.name [119, 111, 114, 100]) [.Eq] [(.const (.str [110, 111, 116]))]) [.ret (.un .Not (.name [102, 105, 114, 115, 116]))] [], .ite (.cmp (.sub (.sub (.name [116, 114, 101, 101]) (.const (.int (2)))) (.const (.int (1)))) [.Eq] [(.const (.int (4)))]) [.ret (.const .none)] [], .ite (.cmp (.name [107, 105, 110, 100]) [.Eq] [(.const (.int (1)))]) [.ret (.tup [(.name [102, 105, 114, 115, 116]), (.const (.int (0)))])] [], .asg (.tup [[116, 111, 112], [112, 108, 97, 99, 101, 115]]) (.name [102, 105, 114, 115, 116]), .ret (.call (.const (.con 1251)) [(.ite (.cmp (.name [112, 108, 97, 99, 101, 115]) [.GtE] [(.const (.int (0)))]) (.bin .Mult (.name [116, 111, 112]) (.bin .Pow (.const (.int (10))) (.name [112, 108, 97, 99, 101, 115]))) (.ite (.cmp (.name [116, 111, 112]) [.GtE] [(.const (.int (0)))]) (.bin .FloorDiv (.name [116, 111, 112]) (.const (.int (10)))) (.bin .Sub (.const (.int (0))) (.bin .FloorDiv (.bin .Sub (.const (.int (0))) (.name [116, 111, 112])) (.const (.int (10)))))))])]
noncomputable abbrev p_1265 : List (List Nat) := [[116, 114, 101, 101], [104, 101, 108, 100], [108, 111, 103]]
/-- _law_function -/
noncomputable def b_1272 : List XS := [.asg (.rtup [[110, 97, 109, 101], [112, 97, 114, 116, 115]]) (.tup [(.sub (.name [116, 114, 101, 101]) (.const (.int (2)))), (.sub (.name [116, 114, 101, 101]) (.const (.int (3))))]), .ite (.bool .And [(.cmp (.name [110, 97, 109, 101]) [.Eq] [(.const (.str [76, 69, 78]))]), (.cmp (.sub (.sub (.name [112, 97, 114, 116, 115]) (.const (.int (0)))) (.const (.int (0)))) [.In] [(.tup [(.const (.str [118, 97, 114])), (.const (.str [101, 108, 101, 109])), (.const (.str [115, 117, 98, 115, 116, 114]))])])]) [.asg (.name [112, 97, 114, 116]) (.call (.const (.con 1258)) [(.sub (.name [112, 97, 114, 116, 115]) (.const (.int (0)))), (.name [104, 101, 108, 100]), (.name [108, 111, 103])]), .ret (.ite (.cmp (.name [112, 97, 114, 116]) [.Is] [(.const .none)]) (.const .none) (.bin .Sub (.sub (.name [112, 97, 114, 116]) (.const (.int (2)))) (.sub (.name [112, 97, 114, 116]) (.const (.int (1))))))] [], .asg (.name [118, 97, 108, 117, 101, 115]) (.lst []), .loop [112, 97, 114, 116] (.name [112, 97, 114, 116, 115]) [.expr (.meth (.name [118, 97, 108, 117, 101, 115]) .append [(.call (.const (.con 1265)) [(.name [112, 97, 114, 116]), (.name [104, 101, 108, 100]), (.name [108, 111, 103])])]), .ite (.cmp (.sub (.name [118, 97, 108, 117, 101, 115]) (.un .USub (.const (.int (1))))) [.Is] [(.const .none)]) [.ret (.const .none)] []], .asg (.rtup [[120], [121]]) (.tup [(.sub (.name [118, 97, 108, 117, 101, 115]) (.const (.int (0)))), (.sub (.name [118, 97, 108, 117, 101, 115]) (.un .USub (.const (.int (1)))))]), .ite (.cmp (.name [110, 97, 109, 101]) [.In] [(.tup [(.const (.str [76, 71, 69])), (.const (.str [76, 71, 84])), (.const (.str [76, 76, 69])), (.const (.str [76, 76, 84]))])]) [.asg (.rtup [[120], [121]]) (.tup [(.bin .Add (.name [120]) (.bin .Mult (.const (.str [32])) (.bin .Sub (.bcall .len [(.name [121])]) (.bcall .len [(.name [120])])))), (.bin .Add (.name [121]) (.bin .Mult (.const (.str [32])) (.bin .Sub (.bcall .len [(.name [120])]) (.bcall .len [(.name [121])]))))]), .ret (.sub (.dict [([76, 71, 69], (.cmp (.name [120]) [.GtE] [(.name [121])])), ([76, 71, 84], (.cmp (.name [120]) [.Gt] [(.name [121])])), ([76, 76, 69], (.cmp (.name [120]) [.LtE] [(.name [121])])), ([76, 76, 84], (.cmp (.name [120]) [.Lt] [(.name [121])]))]) (.name [110, 97, 109, 101]))] [], .ite (.cmp (.name [110, 97, 109, 101]) [.Eq] [(.const (.str [67, 72, 65, 82]))]) [.ret (.ite (.cmp (.const (.int (0))) [.LtE, .LtE] [(.name [120]), (.const (.int (255)))]) (.bcall .chr [(.name [120])]) (.const .none))] [], .ite (.cmp (.name [110, 97, 109, 101]) [.Eq] [(.const (.str [73, 67, 72, 65, 82]))]) [.ret (.ite (.cmp (.bcall .len [(.name [120])]) [.Eq] [(.const (.int (1)))]) (.bcall .ord [(.name [120])]) (.const .none))] [], .ite (.cmp (.name [110, 97, 109, 101]) [.Eq] [(.const (.str [76, 69, 78]))]) [.ret (.bcall .len [(.name [120])])] [], .ite (.cmp (.name [110, 97, 109, 101]) [.Eq] [(.const (.str [73, 78, 68, 69, 88]))]) [.ret (.bin .Add (.meth (.name [120]) .find [(.name [121])]) (.const (.int (1))))] [], .ite (.cmp (.name [110, 97, 109, 101]) [.In] [(.tup [(.const (.str [77, 65, 88])), (.const (.str [77, 73, 78]))])]) [.ret (.ite (.cmp (.name [110, 97, 109, 101]) [.Eq] [(.const (.str [77, 65, 88]))]) (.bcall .max [(.name [118, 97, 108, 117, 101, 115])]) (.bcall .min [(.name [118, 97, 108, 117, 101, 115])]))] [], .ite (.cmp (.name [110, 97, 109, 101]) [.Eq] [(.const (.str [77, 79, 68]))]) [.ret (.ite (.cmp (.name [121]) [.Eq] [(.const (.int (0)))]) (.const .none) (.bin .Mult (.bin .Mod (.bcall .abs [(.name [120])]) (.bcall .abs [(.name [121])])) (.ite (.cmp (.name [120]) [.Lt] [(.const (.int (0)))]) (.un .USub (.const (.int (1)))) (.const (.int (1))))))] [], .ite (.cmp (.name [110, 97, 109, 101]) [.Eq] [(.const (.str [68, 73, 77]))]) [.ret (.call (.const (.con 1251)) [(.bcall .max [(.bin .Sub (.name [120]) (.name [121])), (.const (.int (0)))])])] [], .ite (.cmp (.name [110, 97, 109, 101]) [.Eq] [(.const (.str [83, 73, 71, 78]))]) [.ret (.call (.const (.con 1251)) [(.ite (.cmp (.name [121]) [.GtE] [(.const (.int (0)))]) (.bcall .abs [(.name [120])]) (.bin .Sub (.const (.int (0))) (.bcall .abs [(.name [120])])))])] [], .ret (.ite (.cmp (.name [110, 97, 109, 101]) [.Eq] [(.const (.str [65, 66, 83]))]) (.call (.const (.con 1251)) [(.bcall .abs [(.name [120])])]) (.ite (.cmp (.name [110, 97, 109, 101]) [.Eq] [(.const (.str [73, 78, 84]))]) (.name [120]) (.const .none)))]
noncomputable abbrev p_1272 : List (List Nat) := [[116, 114, 101, 101], [104, 101, 108, 100], [108, 111, 103]]
/-- __init__ -/
noncomputable def b_978 : List XS := [.asg (.attr (.name [115, 101, 108, 102]) [110, 117, 109, 101, 114, 105, 99]) (.bin .Mult (.lst [(.const .none)]) (.name [110, 117, 109, 101, 114, 105, 99])), .asg (.attr (.name [115, 101, 108, 102]) [99, 104, 97, 114, 97, 99, 116, 101, 114, 115]) (.bin .Mult (.lst [(.const .none)]) (.name [99, 104, 97, 114, 97, 99, 116, 101, 114, 115]))]
noncomputable abbrev p_978 : List (List Nat) := [[115, 101, 108, 102], [110, 117, 109, 101, 114, 105, 99], [99, 104, 97, 114, 97, 99, 116, 101, 114, 115]]
/-- load -/
noncomputable def b_985 : List XS := [.ite (.cmp (.sub (.name [112, 108, 97, 99, 101]) (.const (.int (0)))) [.Eq] [(.const (.int (5)))]) [.ret (.call (.const (.con 1041)) [(.attr (.name [115, 101, 108, 102]) [99, 104, 97, 114, 97, 99, 116, 101, 114, 115]), (.sub (.name [112, 108, 97, 99, 101]) (.const (.int (1)))), (.sub (.name [112, 108, 97, 99, 101]) (.const (.int (2))))])] [], .ret (.call (.const (.con 1027)) [(.attr (.name [115, 101, 108, 102]) [110, 117, 109, 101, 114, 105, 99]), (.sub (.name [112, 108, 97, 99, 101]) (.const (.int (0)))), (.sub (.name [112, 108, 97, 99, 101]) (.const (.int (1))))])]
noncomputable abbrev p_985 : List (List Nat) := [[115, 101, 108, 102], [112, 108, 97, 99, 101]]
/-- store -/
noncomputable def b_992 : List XS := [.ite (.cmp (.sub (.name [112, 108, 97, 99, 101]) (.const (.int (0)))) [.Eq] [(.const (.int (5)))]) [.expr (.call (.const (.con 1048)) [(.attr (.name [115, 101, 108, 102]) [99, 104, 97, 114, 97, 99, 116, 101, 114, 115]), (.sub (.name [112, 108, 97, 99, 101]) (.const (.int (1)))), (.call (.const (.con 1055)) [(.name [118, 97, 108, 117, 101]), (.sub (.name [112, 108, 97, 99, 101]) (.const (.int (2))))])])] [.expr (.call (.const (.con 1034)) [(.attr (.name [115, 101, 108, 102]) [110, 117, 109, 101, 114, 105, 99]), (.sub (.name [112, 108, 97, 99, 101]) (.const (.int (0)))), (.sub (.name [112, 108, 97, 99, 101]) (.const (.int (1)))), (.name [118, 97, 108, 117, 101])])]]
noncomputable abbrev p_992 : List (List Nat) := [[115, 101, 108, 102], [112, 108, 97, 99, 101], [118, 97, 108, 117, 101]]
/-- __init__ -/
noncomputable def b_1090 : List XS := [.asg (.attr (.name [115, 101, 108, 102]) [109, 101, 109, 111, 114, 121]) (.name [109, 101, 109, 111, 114, 121]), .asg (.attr (.name [115, 101, 108, 102]) [108, 105, 109, 105, 116, 115]) (.name [108, 105, 109, 105, 116, 115]), .asg (.attr (.name [115, 101, 108, 102]) [117, 110, 105, 116, 115]) (.name [117, 110, 105, 116, 115]), .asg (.attr (.name [115, 101, 108, 102]) [119, 111, 114, 108, 100]) (.name [119, 111, 114, 108, 100]), .asg (.attr (.name [115, 101, 108, 102]) [101, 120, 112, 114, 101, 115, 115, 105, 111, 110, 115]) (.name [101, 120, 112, 114, 101, 115, 115, 105, 111, 110, 115]), .asg (.attr (.name [115, 101, 108, 102]) [115, 116, 97, 116, 101, 109, 101, 110, 116, 115]) (.name [115, 116, 97, 116, 101, 109, 101, 110, 116, 115]), .asg (.attr (.name [115, 101, 108, 102]) [102, 114, 97, 109, 101]) (.dict []), .asg (.attr (.name [115, 101, 108, 102]) [100, 101, 112, 116, 104]) (.const (.int (0))), .asg (.attr (.name [115, 101, 108, 102]) [115, 116, 101, 112, 115]) (.const (.int (0))), .asg (.attr (.name [115, 101, 108, 102]) [112, 108, 97, 99, 101, 115]) (.dict []), .asg (.attr (.name [115, 101, 108, 102]) [102, 108, 111, 119, 115]) (.dict []), .asg (.attr (.name [115, 101, 108, 102]) [99, 108, 101, 97, 114, 115]) (.dict []), .asg (.attr (.name [115, 101, 108, 102]) [97, 99, 116, 105, 118, 101]) (.lst []), .asg (.attr (.name [115, 101, 108, 102]) [108, 111, 111, 112, 115]) (.dict []), .asg (.attr (.name [115, 101, 108, 102]) [111, 112, 101, 114, 97, 116, 105, 111, 110, 115]) (.dict []), .asg (.attr (.name [115, 101, 108, 102]) [108, 105, 98, 114, 97, 114, 121]) (.const .none)]
noncomputable abbrev p_1090 : List (List Nat) := [[115, 101, 108, 102], [109, 101, 109, 111, 114, 121], [108, 105, 109, 105, 116, 115], [117, 110, 105, 116, 115], [119, 111, 114, 108, 100], [101, 120, 112, 114, 101, 115, 115, 105, 111, 110, 115], [115, 116, 97, 116, 101, 109, 101, 110, 116, 115]]
/-- __init__ -/
noncomputable def b_1192 : List XS := [.asg (.attr (.name [115, 101, 108, 102]) [119, 105, 100, 116, 104]) (.name [119, 105, 100, 116, 104]), .asg (.attr (.name [115, 101, 108, 102]) [114, 101, 97, 108, 95, 100, 105, 103, 105, 116, 115]) (.name [114, 101, 97, 108, 95, 100, 105, 103, 105, 116, 115]), .asg (.attr (.name [115, 101, 108, 102]) [100, 111, 117, 98, 108, 101, 95, 100, 105, 103, 105, 116, 115]) (.name [100, 111, 117, 98, 108, 101, 95, 100, 105, 103, 105, 116, 115]), .asg (.attr (.name [115, 101, 108, 102]) [116, 111, 112, 95, 101, 120, 112, 111, 110, 101, 110, 116]) (.name [116, 111, 112, 95, 101, 120, 112, 111, 110, 101, 110, 116]), .asg (.attr (.name [115, 101, 108, 102]) [115, 116, 101, 112, 115]) (.name [115, 116, 101, 112, 115]), .asg (.attr (.name [115, 101, 108, 102]) [99, 111, 110, 116, 105, 110, 117, 97, 116, 105, 111, 110, 115]) (.name [99, 111, 110, 116, 105, 110, 117, 97, 116, 105, 111, 110, 115]), .asg (.attr (.name [115, 101, 108, 102]) [99, 111, 108, 117, 109, 110, 115]) (.name [99, 111, 108, 117, 109, 110, 115]), .asg (.attr (.name [115, 101, 108, 102]) [100, 101, 112, 116, 104]) (.name [100, 101, 112, 116, 104])]
noncomputable abbrev p_1192 : List (List Nat) := [[115, 101, 108, 102], [119, 105, 100, 116, 104], [114, 101, 97, 108, 95, 100, 105, 103, 105, 116, 115], [100, 111, 117, 98, 108, 101, 95, 100, 105, 103, 105, 116, 115], [116, 111, 112, 95, 101, 120, 112, 111, 110, 101, 110, 116], [115, 116, 101, 112, 115], [99, 111, 110, 116, 105, 110, 117, 97, 116, 105, 111, 110, 115], [99, 111, 108, 117, 109, 110, 115], [100, 101, 112, 116, 104]]
noncomputable def tabL : List (Nat × List (List Nat) × List XS) := [(60, p_60, b_60), (68, p_68, b_68), (75, p_75, b_75), (82, p_82, b_82), (89, p_89, b_89), (145, p_145, b_145), (152, p_152, b_152), (159, p_159, b_159), (663, p_663, b_663), (670, p_670, b_670), (677, p_677, b_677), (684, p_684, b_684), (691, p_691, b_691), (698, p_698, b_698), (705, p_705, b_705), (719, p_719, b_719), (775, p_775, b_775), (782, p_782, b_782), (789, p_789, b_789), (796, p_796, b_796), (803, p_803, b_803), (817, p_817, b_817), (824, p_824, b_824), (831, p_831, b_831), (880, p_880, b_880), (887, p_887, b_887), (894, p_894, b_894), (901, p_901, b_901), (908, p_908, b_908), (915, p_915, b_915), (922, p_922, b_922), (929, p_929, b_929), (936, p_936, b_936), (943, p_943, b_943), (950, p_950, b_950), (957, p_957, b_957), (964, p_964, b_964), (607, p_607, b_607), (656, p_656, b_656), (1013, p_1013, b_1013), (1020, p_1020, b_1020), (1027, p_1027, b_1027), (1034, p_1034, b_1034), (1041, p_1041, b_1041), (1048, p_1048, b_1048), (1055, p_1055, b_1055), (1062, p_1062, b_1062), (1069, p_1069, b_1069), (1076, p_1076, b_1076), (1104, p_1104, b_1104), (1111, p_1111, b_1111), (1118, p_1118, b_1118), (1125, p_1125, b_1125), (1130, p_1130, b_1130), (1137, p_1137, b_1137), (1144, p_1144, b_1144), (1151, p_1151, b_1151), (1158, p_1158, b_1158), (1165, p_1165, b_1165), (1172, p_1172, b_1172), (1177, p_1177, b_1177), (1206, p_1206, b_1206), (1213, p_1213, b_1213), (1220, p_1220, b_1220), (1227, p_1227, b_1227), (1232, p_1232, b_1232), (1237, p_1237, b_1237), (1244, p_1244, b_1244), (1251, p_1251, b_1251), (1258, p_1258, b_1258), (1265, p_1265, b_1265), (1272, p_1272, b_1272), (978, p_978, b_978), (985, p_985, b_985), (992, p_992, b_992), (1090, p_1090, b_1090)]
noncomputable def findT (a : Nat) : List (Nat × List (List Nat) × List XS) → Option (List (List Nat) × List XS)
  | [] => none
  | (b, p) :: r => if a = b then some p else findT a r
noncomputable def T1 : Tab := fun a => findT a tabL
end
local macro_rules | `(tactic| walk_at "o") => `(tactic| (first | exact trivial | exact le_1 | decide | rfl | exact Nat.le_of_ble_eq_true rfl | lia | (simp <;> lia)))
local macro_rules | `(tactic| walk_at "s") => `(tactic| (
  repeat' (first
    | (refine sel_g ?_; first
      | refine sel_rt (by decide) ?_ | refine sel_rf (by decide) ?_
      | ((with_reducible first | refine sel_d (fun h => ?_) (fun h => ?_) | refine sel_nd (fun h => ?_) (fun h => ?_)) <;> (try (exfalso; first | lia | exact h rfl)))
      | refine sel_rt rfl ?_ | refine sel_rf rfl ?_)
    | refine And.intro (by walk_at "o") ?_
    | (conv => whnf; first | rw [aug_div (by refine ⟨by decide, ?_⟩; walk_at "o")] | rw [aug_mul (by walk_at "o")]))))
section
open PySem PySem.W PyProof.Rows PySem.Calls
section
variable {Sp : Ctr → Ctr} {k : Nat} {σ : St} {ex : St → Prop} {Q : KE}
theorem cn_top {a : Addr} {ps : List (List Nat)} {b : List XS} {args : List AV} (hT : T1 a = some (ps, b)) (h : runF (Cn T1 Sp k) ps b args σ ex Q) : Cn T1 Sp (k + 1) (.top a) args σ ex Q := by
  rw [Cn_top, hT]; exact h

theorem c_fit_int {n : Int} (h1 : -128 ≤ n → n < 128 → Q (.int n) σ) (h2 : ¬ (-128 ≤ n ∧ n < 128) → ex σ) : Cn T1 Sp (k + 1) (.top 663) [.int n, .int 8] σ ex Q := by
  refine cn_top rfl ⟨rfl, 60, ?_⟩
  have e : (2 : Int) ^ ((8 : Int) - 1).toNat = 128 := by decide
  walk_at "s"
  all_goals (rw [e] at *)
  · exact .inl (h2 (by lia))
  · exact .inl (h2 (by lia))
  · exact .inl (h1 (by lia) (by lia))
theorem c_order_of {x y : List Nat} (h0 : x = y → Q (.int 0) σ) (h1 : x ≠ y → strLt x y = true → Q (.int (-1)) σ) (h2 : x ≠ y → strLt x y = false → Q (.int 1) σ) : Cn T1 Sp (k + 1) (.top 677) [.str x, .str y] σ ex Q := by
  refine cn_top rfl ⟨rfl, 60, ?_⟩
  walk_at "s"
  · exact .inl (h0 ‹_›)
  · refine sel_of (fun h => .inl (h1 ‹_› h)) (fun h => .inl (h2 ‹_› h))
theorem c_order_ofI {x y : Int} (h0 : x = y → Q (.int 0) σ) (h1 : x < y → Q (.int (-1)) σ) (h2 : y < x → Q (.int 1) σ) : Cn T1 Sp (k + 1) (.top 677) [.int x, .int y] σ ex Q := by
  refine cn_top rfl ⟨rfl, 60, ?_⟩
  walk_at "s"
  · exact .inl (h0 ‹_›)
  · exact .inl (h1 ‹_›)
  · exact .inl (h2 (by lia))
/-- the quotient towards zero -/
noncomputable def quo (x y : Int) : Int := if (x < 0) ↔ (y < 0) then (x.natAbs : Int).fdiv y.natAbs else -((x.natAbs : Int).fdiv y.natAbs)
theorem c_cut_quotient {x y : Int} (hy : y ≠ 0) (hx : x.natAbs < 2 ^ 62) (h : Q (.int (quo x y)) σ) : Cn T1 Sp (k + 1) (.top 670) [.int x, .int y] σ ex Q := by
  refine cn_top rfl ⟨rfl, 60, ?_⟩
  walk_at "s"
  · rename_i hh
    rw [decide_eq_decide] at hh
    rw [quo, if_pos hh] at h
    exact .inl h
  · rename_i hh
    rw [decide_eq_decide] at hh
    rw [quo, if_neg hh] at h
    exact .inl h
theorem c_count_digits {n : Int} (hn : n.natAbs ≤ 999) (h : ∀ d : Int, 0 ≤ d → d ≤ 3 → Q (.int d) σ) : Cn T1 Sp (k + 1) (.top 68) [.int n] σ ex Q := by
  refine cn_top rfl ⟨rfl, 60, ?_⟩
  walk_at "s"
  refine ⟨1, ?_⟩
  walk_at "s"
  refine ⟨4, ?_⟩
  walk_at "s"
  all_goals exact .inl (h _ (by decide) (by decide))
theorem c_strip_zeros {m : Int} (hm : m.natAbs ≤ 999) (h : ∀ a e : Int, 0 ≤ e → e ≤ 2 → m = a * 10 ^ e.toNat → Q (.tup [.int a, .int e]) σ) : Cn T1 Sp (k + 1) (.top 75) [.int m, .int 0] σ ex Q := by
  refine cn_top rfl ⟨rfl, 60, ?_⟩
  walk_at "s"
  · exact .inl (h 0 0 (by decide) (by decide) (by simpa using ‹m = 0›))
  refine ⟨4, ?_⟩
  walk_at "s"
  · refine .inl (h _ _ (by decide) (by decide) ?_)
    rw [show ((0 : Int) + 1 + 1).toNat = 2 from rfl]
    simp only [fd10, fm10] at *
    lia
  · refine .inl (h _ _ (by decide) (by decide) ?_)
    rw [show ((0 : Int) + 1).toNat = 1 from rfl]
    simp only [fd10, fm10] at *
    lia
  · exact .inl (h _ _ (by decide) (by decide) (by simp))
theorem c_round_digits {m : Int} (hm : m.natAbs ≤ 999) (h : ∀ a e : Int, 0 ≤ e → e ≤ 2 → m = a * 10 ^ e.toNat → Q (.tup [.int a, .int e]) σ) : Cn T1 Sp (k + 2) (.top 82) [.int m, .int 0, .int 3] σ ex Q := by
  refine cn_top rfl ⟨rfl, 60, ?_⟩
  walk_at "s"
  refine c_count_digits hm fun d h1 h2 => ?_
  walk_at "s"
  exact c_strip_zeros hm fun a e q1 q2 q3 => .inl (h a e q1 q2 q3)
theorem small_of {m a e : Int} (hm : m.natAbs ≤ 999) (h1 : 0 ≤ e) (h : m = a * 10 ^ e.toNat) : a.natAbs ≤ 999 := by
  have h2 : m.natAbs = a.natAbs * 10 ^ e.toNat := by rw [h, Int.natAbs_mul, Int.natAbs_pow]; rfl
  have h3 : 1 ≤ 10 ^ e.toNat := Nat.le_trans (@Nat.one_le_two_pow e.toNat) (Nat.pow_le_pow_left (by decide) _)
  have h4 : a.natAbs * 1 ≤ a.natAbs * 10 ^ e.toNat := Nat.mul_le_mul_left _ h3
  lia
theorem c_round_real {m : Int} (hm : m.natAbs ≤ 999) (h : ∀ a e : Int, 0 ≤ e → e ≤ 2 → m = a * 10 ^ e.toNat → Q (.tup [.int a, .int e]) σ) : Cn T1 Sp (k + 3) (.top 89) [.int m, .int 0, .int 3, .int 90] σ ex Q := by
  refine cn_top rfl ⟨rfl, 60, ?_⟩
  walk_at "s"
  refine c_round_digits hm fun a e q1 q2 q3 => ?_
  walk_at "s"
  refine c_count_digits (small_of hm q1 q3) fun d h1 h2 => ?_
  walk_at "s"
  · rename_i h0
    subst h0
    exact .inl (h 0 0 (by decide) (by decide) (by rw [q3]; simp))
  · exact .inl (h _ _ q1 q2 q3)
theorem c_real_of_int {m : Int} (hm : m.natAbs ≤ 999) (h : ∀ a e : Int, 0 ≤ e → e ≤ 2 → m = a * 10 ^ e.toNat → Q (.tup [.int a, .int e]) σ) : Cn T1 Sp (k + 4) (.top 145) [.int m, .int 3, .int 90] σ ex Q := by
  refine cn_top rfl ⟨rfl, 60, ?_⟩
  walk_at "s"
  exact c_round_real hm fun a e q1 q2 q3 => .inl (h a e q1 q2 q3)
/-- a real as a whole number, towards zero -/
noncomputable def cutR (m e : Int) : Int := if 0 ≤ e then m * 10 ^ e.toNat else if 0 < m then (m.natAbs : Int) / 10 ^ (-e).toNat else -((m.natAbs : Int) / 10 ^ (-e).toNat)
theorem c_real_to_int {m e : Int} (hm : m.natAbs ≤ 999) (h1 : -1 ≤ e) (h2 : e ≤ 2) (h : Q (.int (cutR m e)) σ) : Cn T1 Sp (k + 1) (.top 152) [.tup [.int m, .int e]] σ ex Q := by
  refine cn_top rfl ⟨rfl, 60, ?_⟩
  walk_at "s"
  · rename_i h0
    rw [cutR, if_pos h0] at h
    exact .inl h
  all_goals
    rename_i h0 h3
    obtain rfl : e = -1 := by lia
    rw [cutR, if_neg h0, show (m.natAbs : Int) / 10 ^ (-(-1 : Int)).toNat = (m.natAbs : Int).fdiv (10 ^ (-(-1 : Int)).toNat) from (Int.fdiv_eq_ediv_of_nonneg _ (by decide)).symm] at h
    first | rw [if_pos h3] at h | rw [if_neg h3] at h
    exact .inl h
end
end
section
open PySem PySem.W PyProof.Rows PySem.Calls
noncomputable abbrev w_tell : List Nat := [116, 101, 108, 108]
noncomputable abbrev w_const : List Nat := [99, 111, 110, 115, 116]
noncomputable abbrev w_var : List Nat := [118, 97, 114]
noncomputable abbrev w_elem : List Nat := [101, 108, 101, 109]
noncomputable abbrev w_substr : List Nat := [115, 117, 98, 115, 116, 114]
noncomputable abbrev w_neg : List Nat := [110, 101, 103]
noncomputable abbrev w_not : List Nat := [110, 111, 116]
noncomputable abbrev w_conv : List Nat := [99, 111, 110, 118]
noncomputable abbrev w_cat : List Nat := [99, 97, 116]
noncomputable abbrev w_intr : List Nat := [105, 110, 116, 114]
noncomputable abbrev w_nothing : List Nat := [110, 111, 116, 104, 105, 110, 103]
noncomputable abbrev w_I : List Nat := [73]
noncomputable abbrev w_J : List Nat := [74]
noncomputable abbrev w_N : List Nat := [78]
noncomputable abbrev w_S : List Nat := [83]
noncomputable abbrev w_T : List Nat := [84]
noncomputable abbrev w_P : List Nat := [80]
noncomputable abbrev w_Q : List Nat := [81]
noncomputable abbrev w_SUBR : List Nat := [83, 85, 66, 82]
noncomputable abbrev w_ABS : List Nat := [65, 66, 83]
noncomputable abbrev w_MOD : List Nat := [77, 79, 68]
noncomputable abbrev w_SIGN : List Nat := [83, 73, 71, 78]
noncomputable abbrev w_DIM : List Nat := [68, 73, 77]
noncomputable abbrev w_LEN : List Nat := [76, 69, 78]
noncomputable abbrev w_MAX : List Nat := [77, 65, 88]
noncomputable abbrev w_MIN : List Nat := [77, 73, 78]
noncomputable abbrev w_ICHAR : List Nat := [73, 67, 72, 65, 82]
noncomputable abbrev w_INDEX : List Nat := [73, 78, 68, 69, 88]
noncomputable abbrev w_INT : List Nat := [73, 78, 84]
noncomputable abbrev w_ODD : List Nat := [79, 68, 68]
noncomputable abbrev w_CHAR : List Nat := [67, 72, 65, 82]
noncomputable abbrev w_LGE : List Nat := [76, 71, 69]
noncomputable abbrev w_LGT : List Nat := [76, 71, 84]
noncomputable abbrev w_LLE : List Nat := [76, 76, 69]
noncomputable abbrev w_LLT : List Nat := [76, 76, 84]
noncomputable abbrev w_cells : List Nat := [99, 101, 108, 108, 115]
noncomputable abbrev w_eaten : List Nat := [101, 97, 116, 101, 110]
noncomputable abbrev w_mark : List Nat := [109, 97, 114, 107]
noncomputable abbrev w_numeric : List Nat := [110, 117, 109, 101, 114, 105, 99]
noncomputable abbrev w_characters : List Nat := [99, 104, 97, 114, 97, 99, 116, 101, 114, 115]
noncomputable abbrev w_width : List Nat := [119, 105, 100, 116, 104]
noncomputable abbrev w_real_digits : List Nat := [114, 101, 97, 108, 95, 100, 105, 103, 105, 116, 115]
noncomputable abbrev w_double_digits : List Nat := [100, 111, 117, 98, 108, 101, 95, 100, 105, 103, 105, 116, 115]
noncomputable abbrev w_top_exponent : List Nat := [116, 111, 112, 95, 101, 120, 112, 111, 110, 101, 110, 116]
noncomputable abbrev w_steps : List Nat := [115, 116, 101, 112, 115]
noncomputable abbrev w_continuations : List Nat := [99, 111, 110, 116, 105, 110, 117, 97, 116, 105, 111, 110, 115]
noncomputable abbrev w_columns : List Nat := [99, 111, 108, 117, 109, 110, 115]
noncomputable abbrev w_depth : List Nat := [100, 101, 112, 116, 104]
noncomputable abbrev w_memory : List Nat := [109, 101, 109, 111, 114, 121]
noncomputable abbrev w_limits : List Nat := [108, 105, 109, 105, 116, 115]
noncomputable abbrev w_units : List Nat := [117, 110, 105, 116, 115]
noncomputable abbrev w_world : List Nat := [119, 111, 114, 108, 100]
noncomputable abbrev w_expressions : List Nat := [101, 120, 112, 114, 101, 115, 115, 105, 111, 110, 115]
noncomputable abbrev w_statements : List Nat := [115, 116, 97, 116, 101, 109, 101, 110, 116, 115]
noncomputable abbrev w_frame : List Nat := [102, 114, 97, 109, 101]
noncomputable abbrev w_places : List Nat := [112, 108, 97, 99, 101, 115]
noncomputable abbrev w_flows : List Nat := [102, 108, 111, 119, 115]
noncomputable abbrev w_clears : List Nat := [99, 108, 101, 97, 114, 115]
noncomputable abbrev w_active : List Nat := [97, 99, 116, 105, 118, 101]
noncomputable abbrev w_loops : List Nat := [108, 111, 111, 112, 115]
noncomputable abbrev w_operations : List Nat := [111, 112, 101, 114, 97, 116, 105, 111, 110, 115]
noncomputable abbrev w_library : List Nat := [108, 105, 98, 114, 97, 114, 121]
/-- what the law has drawn -/
structure Par where
  script : List Int
  eaten : Int
  mark : Int
  I : Int
  J : Option Int
  N0 : Int
  s0 : Option Nat
  s1 : Option Nat
  s2 : Option Nat
  t0 : Option Nat
  t1 : Option Nat
  t2 : Option Nat
  t3 : Option Nat
noncomputable def sgn : Option Nat → AV
  | none => .none
  | some c => .str [c]
noncomputable def intO : Option Int → AV
  | none => .none
  | some i => .int i
noncomputable def cellO : Option Int → AV
  | none => .none
  | some i => .tup [.int 0, .int i]
noncomputable def tagN : AV := .tup [.int 0, .int 3]
noncomputable def intL (l : List Int) : List AV := l.map AV.int
noncomputable def loafD (p : Par) : AO := .dict [(w_cells, .lst (intL p.script)), (w_eaten, .int p.eaten), (w_mark, .int p.mark)]
noncomputable def heldD (p : Par) : AO := .dict [(w_I, .int p.I), (w_J, intO p.J), (w_N, .lst [.int p.N0, .int 3, .none]), (w_S, .lst [sgn p.s0, sgn p.s1, sgn p.s2]), (w_T, .lst [sgn p.t0, sgn p.t1, sgn p.t2, sgn p.t3])]
noncomputable def numL (p : Par) : AO := .list [cellO (some p.I), cellO p.J, cellO (some p.N0), tagN, .none]
noncomputable def chrL (p : Par) : AO := .list [sgn p.s0, sgn p.s1, sgn p.s2, sgn p.t0, sgn p.t1, sgn p.t2, sgn p.t3]
noncomputable def handD : AO := .dict [(w_tell, .clo [.obj 7]), (w_const, .con 1144), (w_var, .con 1151), (w_elem, .con 1151), (w_substr, .con 1151), (w_neg, .con 1165), (w_not, .con 1165), (w_conv, .con 1158), (w_cat, .con 1172), (w_intr, .con 1177)]
noncomputable def limD : AO := .attrs [(w_width, .int 8), (w_real_digits, .int 3), (w_double_digits, .int 5), (w_top_exponent, .int 90), (w_steps, .int 1000000), (w_continuations, .int 19), (w_columns, .int 72), (w_depth, .int 40)]
noncomputable def runD (fr : Nat) : AO := .attrs [(w_memory, .obj 2), (w_limits, .obj 9), (w_units, .obj 11), (w_world, .none), (w_expressions, .obj 8), (w_statements, .obj 12), (w_frame, .obj fr), (w_depth, .int 0), (w_steps, .int 0),
  (w_places, .obj 16), (w_flows, .obj 17), (w_clears, .obj 18), (w_active, .obj 19), (w_loops, .obj 20), (w_operations, .obj 21), (w_library, .none)]
noncomputable def spotD : AO := .dict [(w_I, .tup [.int 0, .int 0, .int 0, .tup []]), (w_J, .tup [.int 0, .int 1, .int 0, .tup []]), (w_N, .tup [.int 0, .int 2, .int 0, .tup [.tup [.int 1, .int 3]]]),
  (w_S, .tup [.int 5, .int 0, .int 3, .tup []]), (w_T, .tup [.int 5, .int 3, .int 2, .tup [.tup [.int 1, .int 2]]]), (w_P, .str w_SUBR)]
/-- the objects while the law evaluates -/
noncomputable def S (p : Par) (log told : List Int) (g : St) : St :=
  loafD p :: heldD p :: .inst 1002 3 :: .attrs [(w_numeric, .obj 4), (w_characters, .obj 5)] :: numL p :: chrL p :: .list (intL log) :: .list (intL told) :: handD :: .inst 1195 10 :: limD :: .dict [] :: .dict [] :: .inst 1093 14 :: runD 23 ::
  .dict [] :: .dict [] :: .dict [] :: .dict [] :: .list [] :: .dict [] :: .dict [] :: spotD :: spotD :: g
/-- things that stand for themselves -/
noncomputable def Bg (g : St) : Prop := ∀ a ∈ g, ∀ m, bndO m a = true
theorem bndL_ints (m : Nat) : ∀ l : List Int, bndL m (intL l) = true
  | [] => rfl
  | a :: l => bndL_ints m l
theorem bnd_sgn (m : Nat) (c : Option Nat) : bndA m (sgn c) = true := by cases c <;> rfl
theorem bnd_int (m : Nat) (c : Option Int) : bndA m (intO c) = true := by cases c <;> rfl
theorem bnd_cell (m : Nat) (c : Option Int) : bndA m (cellO c) = true := by cases c <;> rfl
theorem and_t {a b : Bool} (h1 : a = true) (h2 : b = true) : (a && b) = true := by rw [h1, h2]; rfl
theorem and_l {a b : Bool} (h : (a && b) = true) : a = true ∧ b = true := by cases a <;> cases b <;> first | exact ⟨rfl, rfl⟩ | cases h
section
variable {m m' : Nat} (hm : m ≤ m')
include hm
mutual
theorem bndA_up : ∀ a, bndA m a = true → bndA m' a = true
  | .obj i, h => decide_eq_true (Nat.lt_of_lt_of_le (of_decide_eq_true h) hm)
  | .tup l, h => bndL_up l h
  | .lst l, h => bndL_up l h
  | .clo l, h => bndL_up l h
  | .none, _ => rfl
  | .bool _, _ => rfl
  | .int _, _ => rfl
  | .str _, _ => rfl
  | .con _, _ => rfl
theorem bndL_up : ∀ l, bndL m l = true → bndL m' l = true
  | [], _ => rfl
  | a :: l, h => and_t (bndA_up a (and_l h).1) (bndL_up l (and_l h).2)
end
theorem bndE_up : ∀ l, bndE m l = true → bndE m' l = true
  | [], _ => rfl
  | (_, a) :: l, h => and_t (bndA_up hm a (and_l h).1) (bndE_up l (and_l h).2)
theorem bndO_up (a : AO) (h : bndO m a = true) : bndO m' a = true := by
  cases a with
  | list l => exact bndL_up hm l h
  | dict es => exact bndE_up hm es h
  | inst C d => exact decide_eq_true (Nat.lt_of_lt_of_le (of_decide_eq_true h) hm)
  | attrs es => exact bndE_up hm es h
  | pin es o => exact bndE_up hm es h
end
theorem bnd_c {m : Nat} {a : AO} {l : St} (h1 : bndO m a = true) (h2 : ∀ x ∈ l, bndO m x = true) : ∀ x ∈ a :: l, bndO m x = true := List.forall_mem_cons.mpr ⟨h1, h2⟩
theorem S_bnd (p : Par) (log told : List Int) {g : St} (hg : Bg g) {m : Nat} (hm : 24 ≤ m) : ∀ a ∈ S p log told g, bndO m a = true := by
  have h1 : bndO 24 (loafD p) = true := and_t (bndL_ints _ _) rfl
  have hs : ∀ (c : Option Nat) (l : List AV), bndL 24 l = true → bndL 24 (sgn c :: l) = true := fun c l h => and_t (bnd_sgn _ c) h
  have h2 : bndO 24 (heldD p) = true := and_t (bnd_int 24 p.J) (and_t (b := bndE 24 [(w_S, .lst [sgn p.s0, sgn p.s1, sgn p.s2]), (w_T, .lst [sgn p.t0, sgn p.t1, sgn p.t2, sgn p.t3])]) rfl <| and_t (hs _ _ (hs _ _ (hs _ _ rfl))) (and_t (hs _ _ (hs _ _ (hs _ _ (hs _ _ rfl)))) rfl))
  have h3 : bndO 24 (numL p) = true := and_t (bnd_cell 24 p.J) rfl
  have h4 : bndO 24 (chrL p) = true := hs _ _ (hs _ _ (hs _ _ (hs _ _ (hs _ _ (hs _ _ (hs _ _ rfl))))))
  have h : ∀ a ∈ S p log told g, bndO 24 a = true :=
    bnd_c h1 <| bnd_c h2 <| bnd_c rfl <| bnd_c rfl <| bnd_c h3 <| bnd_c h4 <| bnd_c (bndL_ints _ _) <| bnd_c (bndL_ints _ _) <| bnd_c rfl <| bnd_c rfl <| bnd_c rfl <| bnd_c rfl <| bnd_c rfl <| bnd_c rfl <| bnd_c rfl <| bnd_c rfl <| bnd_c rfl <| bnd_c rfl <| bnd_c rfl <| bnd_c rfl <| bnd_c rfl <| bnd_c rfl <| bnd_c rfl <| bnd_c rfl fun a ha => hg a ha 24
  exact fun a ha => bndO_up hm a (h a ha)
theorem S_len (p log told g) : (S p log told g).length = 24 + g.length := Nat.add_comm g.length 24
theorem S_take (p log told g g') : (S p log told (g ++ g')).take (24 + g.length) = S p log told g := by
  rw [Nat.add_comm]
  unfold S
  simp only [List.take_succ_cons, List.take_left']
section
variable {p : Par} {log told log' told' : List Int} {g g' : St} {ex : St → Prop} {Q : KE} {v : AV}
/-- back to the objects that stood before the call -/
theorem done_S (hg : Bg g) (hv : ∀ m, 24 ≤ m → bndA m v = true) (h : Q v (S p log' told' g)) : Done (S p log told g) Q v (S p log' told' (g ++ g')) :=
  .inr ⟨24 + g.length, by rw [S_len]; exact Nat.le_refl _, hv _ (Nat.le_add_right _ _), by rw [S_take]; exact S_bnd _ _ _ hg (Nat.le_add_right _ _), by rw [S_take]; exact h⟩
theorem doneX_S (hg : Bg g) (h : ex (S p log' told' g)) : DoneX (S p log told g) ex (S p log' told' (g ++ g')) :=
  .inr ⟨24 + g.length, by rw [S_len]; exact Nat.le_refl _, by rw [S_take]; exact S_bnd _ _ _ hg (Nat.le_add_right _ _), by rw [S_take]; exact h⟩
end
end
section
open PySem PySem.W PyProof.Rows PySem.Calls
/-- calls of what is no def: the closure tell and the classes -/
noncomputable def tup4 (f : AV → AV → Prop) : AV → Prop
  | .tup (_ :: _ :: m :: v :: _) => f m v
  | _ => False
theorem tup4_inv {f : AV → AV → Prop} {t : AV} (h : tup4 f t) : ∃ a b m v r, t = .tup (a :: b :: m :: v :: r) ∧ f m v := by
  cases t with
  | tup l =>
    rcases l with _ | ⟨a, _ | ⟨b, _ | ⟨m, _ | ⟨v, r⟩⟩⟩⟩
    · exact h.elim
    · exact h.elim
    · exact h.elim
    · exact h.elim
    · exact ⟨a, b, m, v, r, rfl, h⟩
  | _ => exact h.elim
noncomputable def cloS (c args : List AV) (σ : St) (Q : KE) : Prop := oneB (objB fun i => listB (fun l => twoB (fun _ t => tup4 (fun m v => l.length ≤ 1000000 ∧ Q v (σ.set i (.list (l ++ [m])))) t) args) σ[i]?) c
inductive CloV (c args : List AV) (σ : St) (Q : KE) : Prop
  | mk (i : Nat) (x a b m v : AV) (r l : List AV) : c = [.obj i] → args = [x, .tup (a :: b :: m :: v :: r)] → σ[i]? = some (.list l) → l.length ≤ 1000000 → Q v (σ.set i (.list (l ++ [m]))) → CloV c args σ Q
theorem cloS_inv {c args : List AV} {σ : St} {Q : KE} (h : cloS c args σ Q) : CloV c args σ Q := by
  obtain ⟨u, rfl, h⟩ := oneB_inv h
  obtain ⟨i, rfl, h⟩ := objB_inv h
  obtain ⟨l, e, h⟩ := listB_inv h
  obtain ⟨x, t, rfl, h⟩ := twoB_inv h
  obtain ⟨a, b, m, v, r, rfl, h1, h2⟩ := tup4_inv h
  exact ⟨i, x, a, b, m, v, r, l, rfl, rfl, e, h1, h2⟩
noncomputable def mkS (C : Ctr) (K I : Addr) (args : List AV) (σ : St) (ex : St → Prop) (Q : KE) : Prop := C (.top I) (.obj σ.length :: args) (σ ++ [.inst K (σ.length + 1), .attrs []]) ex fun v σ' => v = .none ∧ Q (.obj σ.length) σ'
noncomputable def limS (args : List AV) (σ : St) (ex : St → Prop) (Q : KE) : Prop := runF (fun _ _ _ _ _ => False) p_1192 b_1192 (.obj σ.length :: (args ++ [.int 1000000, .int 19, .int 72, .int 40])) (σ ++ [.inst 1195 (σ.length + 1), .attrs []]) ex fun v σ' => v = .none ∧ Q (.obj σ.length) σ'
noncomputable def topS (C : Ctr) (a : Addr) (args : List AV) (σ : St) (ex : St → Prop) (Q : KE) : Prop := if a = 1002 then mkS C 1002 978 args σ ex Q else if a = 1093 then mkS C 1093 1090 args σ ex Q else if a = 1195 then limS args σ ex Q else False
theorem topS_inv {C : Ctr} {a : Addr} {args : List AV} {σ : St} {ex : St → Prop} {Q : KE} (h : topS C a args σ ex Q) : (a = 1002 ∧ mkS C 1002 978 args σ ex Q) ∨ (a = 1093 ∧ mkS C 1093 1090 args σ ex Q) ∨ (a = 1195 ∧ limS args σ ex Q) := by
  unfold topS at h
  by_cases e : a = 1002
  · rw [if_pos e] at h; exact .inl ⟨e, h⟩
  · rw [if_neg e] at h
    by_cases e : a = 1093
    · rw [if_pos e] at h; exact .inr (.inl ⟨e, h⟩)
    · rw [if_neg e] at h
      by_cases e : a = 1195
      · rw [if_pos e] at h; exact .inr (.inr ⟨e, h⟩)
      · rw [if_neg e] at h; exact h.elim
noncomputable def Sp1 (C : Ctr) : Ctr := fun fn args σ ex Q => match fn with
  | .clo l => cloS l args σ Q
  | .top a => topS C a args σ ex Q
noncomputable abbrev CC (n : Nat) : Ctr := Cn T1 Sp1 n
/-- the end of a call: a value or a refusal -/
noncomputable def Res (r : Option AV) (ex : St → Prop) (Q : KE) (s : St) : Prop := match r with
  | some v => Q v s
  | none => ex s
theorem Res.up {r ex Q s σ} (h : Res r ex Q s) : Res r (DoneX σ ex) (Done σ Q) s := by cases r <;> exact .inl h
noncomputable def textOf : List (Option Nat) → Option (List Nat)
  | [] => some []
  | none :: _ => none
  | some c :: r => (textOf r).bind fun l => some (c :: l)
theorem any_sgn : ∀ l : List (Option Nat), anyNone (l.map sgn) = some ((textOf l).isNone)
  | [] => rfl
  | none :: r => by
    show (anyNone (r.map sgn)).bind (fun _ => some true) = some true
    rw [any_sgn r]
    rfl
  | some c :: r => by
    show anyNone (r.map sgn) = some (((textOf r).bind fun l => some (c :: l)).isNone)
    rw [any_sgn r]
    cases textOf r <;> rfl
theorem strs_sgn : ∀ (l : List (Option Nat)) (s : List Nat), textOf l = some s → isStrs (l.map sgn) = some (s.map fun c => [c])
  | [], s, h => by cases h; rfl
  | none :: r, s, h => by cases h
  | some c :: r, s, h => by
    obtain ⟨q, hq, h⟩ := obind_inv (show (textOf r).bind (fun l => some (c :: l)) = some s from h)
    cases h
    show (isStrs (r.map sgn)).bind (fun l => some ([c] :: l)) = _
    rw [strs_sgn r q hq]; rfl
theorem flat_one : ∀ s : List Nat, (s.map fun c => [c]).flatten = s
  | [] => rfl
  | c :: r => by show [c] ++ (r.map fun c => [c]).flatten = _; rw [flat_one r]; rfl
theorem text_len : ∀ {l : List (Option Nat)} {s : List Nat}, textOf l = some s → s.length = l.length
  | [], s, h => by cases h; rfl
  | none :: r, s, h => by cases h
  | some c :: r, s, h => by
    obtain ⟨q, hq, h⟩ := obind_inv (show (textOf r).bind (fun l => some (c :: l)) = some s from h)
    cases h
    rw [List.length_cons, List.length_cons, text_len hq]
noncomputable def chs (p : Par) : List (Option Nat) := [p.s0, p.s1, p.s2, p.t0, p.t1, p.t2, p.t3]
theorem slc_obj {σ : St} {j : Nat} {l : List AV} {a b : Int} (h : σ[j]? = some (.list l)) (h1 : 0 ≤ a ∧ a ≤ b ∧ b ≤ l.length ∧ l.length ≤ 1000000) : slcop (.obj j) (some (.int a)) (some (.int b)) σ = some (.lst (cutL l a.toNat b.toNat)) := by
  unfold slcop
  dsimp only
  rw [h]
  exact guardO_pos h1
theorem cut_map (l : List (Option Nat)) (a b : Nat) : cutL (l.map sgn) a b = (cutL l a b).map sgn := by
  unfold cutL; rw [List.map_take, List.map_drop]
section
variable {p : Par} {log told : List Int} {g : St} {k : Nat} {σ : St} {ex : St → Prop} {Q : KE}
theorem c_units (h : Q (.int 1) σ) : CC (k + 1) (.top 60) [.int 0] σ ex Q := by
  refine cn_top rfl ⟨rfl, 60, ?_⟩
  walk_at "s"
  exact .inl h
theorem c_need5 {a n : Int} (h1 : 0 ≤ a → a + n ≤ 5 → Q .none (S p log told g)) (h2 : ¬ (0 ≤ a ∧ a + n ≤ 5) → ex (S p log told g)) : CC (k + 1) (.top 1013) [.obj 4, .int a, .int n] (S p log told g) ex Q := by
  refine cn_top rfl ⟨rfl, 60, ?_⟩
  walk_at "s"
  all_goals (try simp only [List.length_cons, List.length_nil] at *)
  · exact .inl (h2 (by lia))
  · exact .inl (h2 (by lia))
  · exact .inl (h1 (by lia) (by lia))
theorem c_need7 {a n : Int} (h1 : 0 ≤ a → a + n ≤ 7 → Q .none (S p log told g)) (h2 : ¬ (0 ≤ a ∧ a + n ≤ 7) → ex (S p log told g)) : CC (k + 1) (.top 1013) [.obj 5, .int a, .int n] (S p log told g) ex Q := by
  refine cn_top rfl ⟨rfl, 60, ?_⟩
  walk_at "s"
  all_goals (try simp only [List.length_cons, List.length_nil] at *)
  · exact .inl (h2 (by lia))
  · exact .inl (h2 (by lia))
  · exact .inl (h1 (by lia) (by lia))
theorem c_load_text {a n : Nat} (hn : a + n ≤ 7) (h : Res ((textOf (cutL (chs p) a (a + n))).map .str) ex Q (S p log told g)) : CC (k + 2) (.top 1041) [.obj 5, .int a, .int n] (S p log told g) ex Q := by
  refine cn_top rfl ⟨rfl, 60, ?_⟩
  walk_at "s"
  refine c_need7 (fun _ _ => ?_) (fun q => absurd ⟨Int.natCast_nonneg a, by lia⟩ q)
  (walk_at "s") <;> (conv => whnf)
  rw [slc_obj (l := (chs p).map sgn) rfl ⟨Int.natCast_nonneg a, by lia, by simp [chs]; lia, by simp [chs]⟩]
  rw [cut_map, Int.toNat_natCast, show ((a : Int) + (n : Int)).toNat = a + n by lia]
  have hlen : (cutL (chs p) a (a + n)).length ≤ 7 := by unfold cutL; simp [chs]; lia
  conv => whnf
  rw [show cmpop .In .none (.lst ((cutL (chs p) a (a + n)).map sgn)) (S p log told g) = _ from any_sgn _]
  conv => whnf
  cases ht : textOf (cutL (chs p) a (a + n)) with
  | none =>
    rw [ht] at h
    walk_at "s"
    exact .inl h
  | some t =>
    rw [ht] at h
    (walk_at "s") <;> (conv => whnf)
    rw [strs_sgn _ _ ht]
    conv => whnf
    rw [flat_one]
    refine ⟨?_, .inl h⟩
    rw [text_len ht]; lia
/-- the numbers in storage -/
noncomputable def numAt (p : Par) (a : Nat) : Option Int := match a with
  | 0 => some p.I
  | 1 => p.J
  | 2 => some p.N0
  | 3 => some 3
  | _ => none
theorem c_read_cell {a : Nat} (ha : a < 5) (h : Res ((numAt p a).map .int) ex Q (S p log told g)) : CC (k + 1) (.top 1020) [.obj 4, .int a, .int 0] (S p log told g) ex Q := by
  refine cn_top rfl ⟨rfl, 60, ?_⟩
  obtain ⟨p1, p2, p3, I, J, N0, _, _, _, _, _, _, _⟩ := p
  rcases J with _ | J
  all_goals
    match a, ha with
    | 0, _ => walk_at "s"; exact .inl h
    | 1, _ => walk_at "s"; exact .inl h
    | 2, _ => walk_at "s"; exact .inl h
    | 3, _ => walk_at "s"; exact .inl h
    | 4, _ => walk_at "s"; exact .inl h
theorem c_load_number {a : Nat} (ha : a < 5) (h : Res ((numAt p a).map .int) ex Q (S p log told g)) : CC (k + 2) (.top 1027) [.obj 4, .int 0, .int a] (S p log told g) ex Q := by
  refine cn_top rfl ⟨rfl, 60, ?_⟩
  walk_at "s"
  refine c_units ?_
  walk_at "s"
  refine c_need5 (fun _ _ => ?_) (fun q => absurd ⟨Int.natCast_nonneg a, by lia⟩ q)
  walk_at "s"
  refine c_read_cell ha ?_
  cases hn : numAt p a with
  | none => rw [hn] at h; exact .inl h
  | some v =>
    rw [hn] at h
    walk_at "s"
    exact .inl h
theorem c_load_n {a : Nat} (ha : a < 5) {l d : AV} (h : Res ((numAt p a).map .int) ex Q (S p log told g)) : CC (k + 3) (.top 985) [.obj 2, .tup [.int 0, .int a, l, d]] (S p log told g) ex Q := by
  refine cn_top rfl ⟨rfl, 60, ?_⟩
  walk_at "s"
  exact c_load_number ha h.up
theorem c_load_t {a n : Nat} (hn : a + n ≤ 7) {d : AV} (h : Res ((textOf (cutL (chs p) a (a + n))).map .str) ex Q (S p log told g)) : CC (k + 3) (.top 985) [.obj 2, .tup [.int 5, .int a, .int n, d]] (S p log told g) ex Q := by
  refine cn_top rfl ⟨rfl, 60, ?_⟩
  walk_at "s"
  exact c_load_text hn h.up
/-- where a name stands -/
noncomputable def placeAt (n : List Nat) : Option AV :=
  if n = w_I then some (.tup [.int 0, .int 0, .int 0, .tup []]) else if n = w_J then some (.tup [.int 0, .int 1, .int 0, .tup []]) else if n = w_N then some (.tup [.int 0, .int 2, .int 0, .tup [.tup [.int 1, .int 3]]])
  else if n = w_S then some (.tup [.int 5, .int 0, .int 3, .tup []]) else if n = w_T then some (.tup [.int 5, .int 3, .int 2, .tup [.tup [.int 1, .int 2]]]) else none
noncomputable def nameL : List (List Nat) := [w_I, w_J, w_N, w_S, w_T, w_P, w_Q]
theorem c_named_place {n : List Nat} (hn : n ∈ nameL) (h : Res (placeAt n) ex Q (S p log told g)) : CC (k + 1) (.top 1111) [.obj 13, .str n] (S p log told g) ex Q := by
  refine cn_top rfl ⟨rfl, 60, ?_⟩
  simp only [nameL, List.mem_cons, List.not_mem_nil, or_false] at hn
  rcases hn with rfl | rfl | rfl | rfl | rfl | rfl | rfl
  all_goals (walk_at "s"; exact .inl h)
end
end
section
open PySem PySem.W PyProof.Rows PySem.Calls
section
variable {p : Par} {log told : List Int} {g : St} {k : Nat} {σ : St} {ex : St → Prop} {Q : KE}
theorem c_digits_of (h : Q (.int 3) (S p log told g)) : CC (k + 1) (.top 159) [.int 1, .obj 9] (S p log told g) ex Q := by
  refine cn_top rfl ⟨rfl, 60, ?_⟩
  walk_at "s"
  exact .inl h
theorem c_real_as {m : Int} (hm : m.natAbs ≤ 999) (h : ∀ a e : Int, 0 ≤ e → e ≤ 2 → m = a * 10 ^ e.toNat → Q (.tup [.int a, .int e]) (S p log told g)) : CC (k + 5) (.top 698) [.int m, .int 0, .int 1, .obj 9] (S p log told g) ex Q := by
  refine cn_top rfl ⟨rfl, 60, ?_⟩
  walk_at "s"
  refine c_digits_of ?_
  walk_at "s"
  exact c_real_of_int hm fun a e q1 q2 q3 => .inl (h a e q1 q2 q3)
theorem c_conv_same {v : AV} (h : Q v (S p log told g)) : CC (k + 1) (.top 705) [v, .int 0, .int 0, .obj 9] (S p log told g) ex Q := by
  refine cn_top rfl ⟨rfl, 60, ?_⟩
  walk_at "s"
  exact .inl h
theorem c_conv_truth {v : AV} (h : ex (S p log told g)) : CC (k + 1) (.top 705) [v, .int 4, .int 0, .obj 9] (S p log told g) ex Q := by
  refine cn_top rfl ⟨rfl, 60, ?_⟩
  walk_at "s"
  exact .inl h
theorem c_conv_real {m : Int} (hm : m.natAbs ≤ 999) (h : ∀ a e : Int, 0 ≤ e → e ≤ 2 → m = a * 10 ^ e.toNat → Q (.tup [.int a, .int e]) (S p log told g)) : CC (k + 6) (.top 705) [.int m, .int 0, .int 1, .obj 9] (S p log told g) ex Q := by
  refine cn_top rfl ⟨rfl, 60, ?_⟩
  walk_at "s"
  exact c_real_as hm fun a e q1 q2 q3 => .inl (h a e q1 q2 q3)
/-- what eight bits hold -/
noncomputable def kept (n : Int) : Option Int := if -128 ≤ n ∧ n < 128 then some n else none
theorem c_fit {n : Int} (h : Res ((kept n).map .int) ex Q σ) : CC (k + 1) (.top 663) [.int n, .int 8] σ ex Q := by
  refine c_fit_int (fun h1 h2 => ?_) fun h1 => ?_
  · rw [kept, if_pos ⟨h1, h2⟩] at h; exact h
  · rw [kept, if_neg h1] at h; exact h
theorem c_conv_whole {m e : Int} (hm : m.natAbs ≤ 999) (h1 : -1 ≤ e) (h2 : e ≤ 2) (h : Res ((kept (cutR m e)).map .int) ex Q (S p log told g)) : CC (k + 2) (.top 705) [.tup [.int m, .int e], .int 1, .int 0, .obj 9] (S p log told g) ex Q := by
  refine cn_top rfl ⟨rfl, 60, ?_⟩
  walk_at "s"
  refine c_real_to_int hm h1 h2 ?_
  walk_at "s"
  exact c_fit h.up
theorem c_unary_not {b : Bool} (h : Q (.bool !b) (S p log told g)) : CC (k + 1) (.top 691) [.str w_not, .int 4, .bool b, .obj 9] (S p log told g) ex Q := by
  refine cn_top rfl ⟨rfl, 60, ?_⟩
  walk_at "s"
  exact .inl h
theorem c_unary_neg {n : Int} (h : Res ((kept (-n)).map .int) ex Q (S p log told g)) : CC (k + 2) (.top 691) [.str w_neg, .int 0, .int n, .obj 9] (S p log told g) ex Q := by
  refine cn_top rfl ⟨rfl, 60, ?_⟩
  walk_at "s"
  exact c_fit h.up
/-- texts of one length -/
noncomputable def padTo (x y : List Nat) : List Nat := x ++ rep [32] ((max (x.length : Int) y.length) - x.length)
noncomputable def ordI (x y : List Nat) : Int := if x = y then 0 else if strLt x y then -1 else 1
theorem rep_len (n : Int) : (rep [32] n).length = n.toNat := by
  unfold rep
  induction n.toNat with
  | zero => rfl
  | succ m ih => rw [List.replicate_succ, List.flatten_cons, List.length_append, ih]; simp; lia
theorem c_collate {x y : List Nat} (hx : x.length ≤ 500) (hy : y.length ≤ 500) (h : Q (.int (ordI (padTo x y) (padTo y x))) σ) : CC (k + 2) (.top 684) [.str x, .str y] σ ex Q := by
  have ey : y ++ rep [32] (max (x.length : Int) y.length - y.length) = padTo y x := by unfold padTo; rw [Int.max_comm]
  refine cn_top rfl ⟨rfl, 60, ?_⟩
  walk_at "s"
  refine ⟨by rw [rep_len]; lia, ?_⟩
  walk_at "s"
  refine ⟨by rw [rep_len]; lia, ?_⟩
  walk_at "s"
  rw [ey]
  refine c_order_of (fun q => ?_) (fun q q2 => ?_) fun q q2 => ?_
  · unfold ordI at h
    rw [if_pos (show padTo x y = padTo y x from q)] at h
    exact .inl h
  · unfold ordI at h
    rw [if_neg (show ¬ padTo x y = padTo y x from q), show strLt (padTo x y) (padTo y x) = true from q2] at h
    exact .inl h
  · unfold ordI at h
    rw [if_neg (show ¬ padTo x y = padTo y x from q), show strLt (padTo x y) (padTo y x) = false from q2] at h
    exact .inl h
noncomputable abbrev k0 : AV := .int 0
theorem c_as_int {v : AV} (h : Q v (S p log told g)) : CC (k + 2) (.top 719) [.lst [k0], .lst [v], .obj 9] (S p log told g) ex Q := by
  refine cn_top rfl ⟨rfl, 60, ?_⟩
  walk_at "s"
  exact c_conv_same (.inl h)
theorem c_without_sign {n : Int} (h : Res ((kept n.natAbs).map .int) ex Q (S p log told g)) : CC (k + 2) (.top 775) [.lst [k0], .lst [.int n], .obj 9] (S p log told g) ex Q := by
  refine cn_top rfl ⟨rfl, 60, ?_⟩
  walk_at "s"
  exact c_fit h.up
noncomputable def remO (x y : Int) : Option Int := if y = 0 then none else some (x - quo x y * y)
theorem c_rest_of {x y : Int} (hx : x.natAbs ≤ 999) (hy : y.natAbs ≤ 999) (h : Res ((remO x y).map .int) ex Q (S p log told g)) : CC (k + 2) (.top 782) [.lst [k0, k0], .lst [.int x, .int y], .obj 9] (S p log told g) ex Q := by
  refine cn_top rfl ⟨rfl, 60, ?_⟩
  walk_at "s"
  · rename_i h0
    rw [remO, if_pos h0] at h
    exact .inl h
  · rename_i h0
    rw [remO, if_neg h0] at h
    refine c_cut_quotient h0 (by lia) ?_
    conv => whnf
    refine ⟨.inr (by lia), ?_⟩
    walk_at "s"
    exact .inl h
noncomputable def signO (x y : Int) : Option Int := kept (if 0 ≤ y then (x.natAbs : Int) else -(x.natAbs : Int))
theorem c_with_sign {x y : Int} (h : Res ((signO x y).map .int) ex Q (S p log told g)) : CC (k + 2) (.top 789) [.lst [k0, k0], .lst [.int x, .int y], .obj 9] (S p log told g) ex Q := by
  refine cn_top rfl ⟨rfl, 60, ?_⟩
  walk_at "s"
  · rename_i h0
    rw [signO, if_pos h0] at h
    exact c_fit h.up
  · rename_i h0
    rw [signO, if_neg h0] at h
    exact c_fit h.up
theorem c_compare {x y : Int} (h0 : x = y → Q (.int 0) σ) (h1 : x < y → Q (.int (-1)) σ) (h2 : y < x → Q (.int 1) σ) : CC (k + 2) (.top 796) [.int 0, .int x, .int y] σ ex Q := by
  refine cn_top rfl ⟨rfl, 60, ?_⟩
  walk_at "s"
  exact c_order_ofI (fun q => .inl (h0 q)) (fun q => .inl (h1 q)) fun q => .inl (h2 q)
noncomputable def dimO (x y : Int) : Option Int := kept (max (x - y) 0)
theorem c_difference {x y : Int} (h : Res ((dimO x y).map .int) ex Q (S p log told g)) : CC (k + 3) (.top 803) [.lst [k0, k0], .lst [.int x, .int y], .obj 9] (S p log told g) ex Q := by
  refine cn_top rfl ⟨rfl, 60, ?_⟩
  walk_at "s"
  have e : x ≤ y → Q (.int 0) (S p log told g) := fun q => by
    rw [dimO, show max (x - y) 0 = 0 by lia] at h; exact h
  refine c_compare (fun q => ?_) (fun q => ?_) fun q => ?_
  · walk_at "s"
    exact .inl (e (by lia))
  · walk_at "s"
    exact .inl (e (by lia))
  · walk_at "s"
    rw [dimO, show max (x - y) 0 = x - y by lia] at h
    exact c_fit h.up
noncomputable def cmpI (x y : Int) : Int := if x = y then 0 else if x < y then -1 else 1
theorem c_cmpI {x y : Int} (h : Q (.int (cmpI x y)) σ) : CC (k + 2) (.top 796) [.int 0, .int x, .int y] σ ex Q := by
  refine c_compare (fun q => ?_) (fun q => ?_) fun q => ?_
  · rw [cmpI, if_pos q] at h; exact h
  · rw [cmpI, if_neg (by lia), if_pos q] at h; exact h
  · rw [cmpI, if_neg (by lia), if_neg (by lia)] at h; exact h
/-- the better of two -/
noncomputable def ext (o x y : Int) : Int := if cmpI y x = o then y else x
theorem ext_self (o x : Int) : ext o x x = x := by unfold ext; split <;> rfl
theorem c_ext2 {x y o : Int} (h : Q (.int (ext o x y)) σ) : CC (k + 3) (.top 817) [.int 0, .lst [.int x, .int y], .int o] σ ex Q := by
  refine cn_top rfl ⟨rfl, 60, ?_⟩
  walk_at "s"
  refine .inl ?_
  walk_at "s"
  refine c_cmpI ?_
  walk_at "s"
  all_goals
    refine c_cmpI ?_
    walk_at "s"
    · rename_i q; rw [ext, if_pos q] at h; exact .inl h
    · rename_i q; rw [ext, if_neg q] at h; exact .inl h
theorem c_ext3 {x y z o : Int} (h : Q (.int (ext o (ext o x y) z)) σ) : CC (k + 3) (.top 817) [.int 0, .lst [.int x, .int y, .int z], .int o] σ ex Q := by
  refine cn_top rfl ⟨rfl, 60, ?_⟩
  walk_at "s"
  refine .inl ?_
  walk_at "s"
  refine c_cmpI ?_
  walk_at "s"
  all_goals
    refine c_cmpI ?_
    walk_at "s"
    · rename_i q; rw [show ext o x y = y from if_pos q] at h
      refine c_cmpI ?_
      walk_at "s"
      · rename_i q; rw [ext, if_pos q] at h; exact .inl h
      · rename_i q; rw [ext, if_neg q] at h; exact .inl h
    · rename_i q; rw [show ext o x y = x from if_neg q] at h
      refine c_cmpI ?_
      walk_at "s"
      · rename_i q; rw [ext, if_pos q] at h; exact .inl h
      · rename_i q; rw [ext, if_neg q] at h; exact .inl h
theorem ext_max (x y : Int) : ext 1 x y = max x y := by
  unfold ext cmpI; split <;> (try split at *) <;> (try split at *) <;> lia
theorem ext_min (x y : Int) : ext (-1) x y = min x y := by
  unfold ext cmpI; split <;> (try split at *) <;> (try split at *) <;> lia
theorem c_great2 {x y : Int} (h : Q (.int (max x y)) (S p log told g)) : CC (k + 4) (.top 824) [.lst [k0, k0], .lst [.int x, .int y], .obj 9] (S p log told g) ex Q := by
  refine cn_top rfl ⟨rfl, 60, ?_⟩
  walk_at "s"
  exact c_ext2 (by rw [ext_max]; exact .inl h)
theorem c_great3 {x y z : Int} (h : Q (.int (max (max x y) z)) (S p log told g)) : CC (k + 4) (.top 824) [.lst [k0, k0, k0], .lst [.int x, .int y, .int z], .obj 9] (S p log told g) ex Q := by
  refine cn_top rfl ⟨rfl, 60, ?_⟩
  walk_at "s"
  exact c_ext3 (by rw [ext_max, ext_max]; exact .inl h)
theorem c_least2 {x y : Int} (h : Q (.int (min x y)) (S p log told g)) : CC (k + 4) (.top 831) [.lst [k0, k0], .lst [.int x, .int y], .obj 9] (S p log told g) ex Q := by
  refine cn_top rfl ⟨rfl, 60, ?_⟩
  walk_at "s"
  exact c_ext2 (by rw [ext_min]; exact .inl h)
theorem c_least3 {x y z : Int} (h : Q (.int (min (min x y) z)) (S p log told g)) : CC (k + 4) (.top 831) [.lst [k0, k0, k0], .lst [.int x, .int y, .int z], .obj 9] (S p log told g) ex Q := by
  refine cn_top rfl ⟨rfl, 60, ?_⟩
  walk_at "s"
  exact c_ext3 (by rw [ext_min, ext_min]; exact .inl h)
noncomputable abbrev k5 : AV := .int 5
noncomputable def codeO : List Nat → Option Int
  | [c] => some c
  | _ => none
theorem c_code_of {s : List Nat} (hs : s.length ≤ 500) (h : Res ((codeO s).map .int) ex Q (S p log told g)) : CC (k + 1) (.top 887) [.lst [k5], .lst [.str s], .obj 9] (S p log told g) ex Q := by
  refine cn_top rfl ⟨rfl, 60, ?_⟩
  walk_at "s"
  · rename_i q
    rcases s with _ | ⟨c, _ | ⟨d, r⟩⟩
    · exact .inl h
    · exact absurd rfl q
    · exact .inl h
  · rename_i q
    rcases s with _ | ⟨c, _ | ⟨d, r⟩⟩
    · exact absurd q (by decide)
    · conv => whnf
      exact .inl h
    · exact absurd q (by simp; lia)
noncomputable def signOf (v : Int) : Option (List Nat) := if 0 ≤ v ∧ v < 256 then some [v.toNat] else none
theorem c_sign_of_code {v : Int} (h : Res ((signOf v).map .str) ex Q (S p log told g)) : CC (k + 1) (.top 894) [.lst [k0], .lst [.int v], .obj 9] (S p log told g) ex Q := by
  refine cn_top rfl ⟨rfl, 60, ?_⟩
  walk_at "s"
  · rw [signOf, if_neg (by lia)] at h; exact .inl h
  · rw [signOf, if_neg (by lia)] at h; exact .inl h
  · rw [signOf, if_pos (by lia)] at h; exact .inl h
theorem c_length_of {s : List Nat} (hs : s.length ≤ 500) (h : Q (.int s.length) (S p log told g)) : CC (k + 1) (.top 901) [.lst [k5], .lst [.str s], .obj 9] (S p log told g) ex Q := by
  refine cn_top rfl ⟨rfl, 60, ?_⟩
  walk_at "s"
  exact .inl h
noncomputable def findI (x y : List Nat) : Int := Txt.find ⟨x.toArray⟩ ⟨y.toArray⟩ + 1
theorem c_place_of_text {x y : List Nat} (h : Q (.int (findI x y)) (S p log told g)) : CC (k + 1) (.top 908) [.lst [k5, k5], .lst [.str x, .str y], .obj 9] (S p log told g) ex Q := by
  refine cn_top rfl ⟨rfl, 60, ?_⟩
  walk_at "s"
  exact .inl h
theorem c_lge {x y : List Nat} (hx : x.length ≤ 500) (hy : y.length ≤ 500) (h : Q (.bool (decide (0 ≤ ordI (padTo x y) (padTo y x)))) (S p log told g)) : CC (k + 3) (.top 915) [.lst [k5, k5], .lst [.str x, .str y], .obj 9] (S p log told g) ex Q := by
  refine cn_top rfl ⟨rfl, 60, ?_⟩
  walk_at "s"
  exact c_collate hx hy (.inl h)
theorem c_lgt {x y : List Nat} (hx : x.length ≤ 500) (hy : y.length ≤ 500) (h : Q (.bool (decide (0 < ordI (padTo x y) (padTo y x)))) (S p log told g)) : CC (k + 3) (.top 922) [.lst [k5, k5], .lst [.str x, .str y], .obj 9] (S p log told g) ex Q := by
  refine cn_top rfl ⟨rfl, 60, ?_⟩
  walk_at "s"
  exact c_collate hx hy (.inl h)
theorem c_lle {x y : List Nat} (hx : x.length ≤ 500) (hy : y.length ≤ 500) (h : Q (.bool (decide (ordI (padTo x y) (padTo y x) ≤ 0))) (S p log told g)) : CC (k + 3) (.top 929) [.lst [k5, k5], .lst [.str x, .str y], .obj 9] (S p log told g) ex Q := by
  refine cn_top rfl ⟨rfl, 60, ?_⟩
  walk_at "s"
  exact c_collate hx hy (.inl h)
theorem c_llt {x y : List Nat} (hx : x.length ≤ 500) (hy : y.length ≤ 500) (h : Q (.bool (decide (ordI (padTo x y) (padTo y x) < 0))) (S p log told g)) : CC (k + 3) (.top 936) [.lst [k5, k5], .lst [.str x, .str y], .obj 9] (S p log told g) ex Q := by
  refine cn_top rfl ⟨rfl, 60, ?_⟩
  walk_at "s"
  exact c_collate hx hy (.inl h)
end
end
section
open PySem PySem.W PyProof.Rows PySem.Calls
noncomputable def numD : List (List Nat × AV) := [([73, 78, 84], .con 719), ([82, 69, 65, 76], .con 726), ([68, 66, 76, 69], .con 733), ([67, 77, 80, 76, 88], .con 740), ([67, 67, 77, 80, 76, 88], .con 747), ([65, 73, 78, 84], .con 754), ([65, 78, 73, 78, 84], .con 761), ([78, 73, 78, 84], .con 768), ([65, 66, 83], .con 775), ([77, 79, 68], .con 782), ([83, 73, 71, 78], .con 789), ([68, 73, 77], .con 803), ([68, 80, 82, 79, 68], .con 810), ([77, 65, 88], .con 824), ([77, 73, 78], .con 831), ([65, 77, 65, 88, 48], .con 838), ([65, 77, 73, 78, 48], .con 845), ([77, 65, 88, 49], .con 852), ([77, 73, 78, 49], .con 859), ([65, 73, 77, 65, 71], .con 866), ([67, 79, 78, 74, 71], .con 873)]
noncomputable def txtD : List (List Nat × AV) := [([73, 67, 72, 65, 82], .con 887), ([67, 72, 65, 82], .con 894), ([76, 69, 78], .con 901), ([73, 78, 68, 69, 88], .con 908), ([76, 71, 69], .con 915), ([76, 71, 84], .con 922), ([76, 76, 69], .con 929), ([76, 76, 84], .con 936)]
noncomputable def mthD : List (List Nat × AV) := [([83, 81, 82, 84], .con 509), ([69, 88, 80], .con 516), ([76, 79, 71], .con 523), ([76, 79, 71, 49, 48], .con 530), ([83, 73, 78], .con 537), ([67, 79, 83], .con 544), ([84, 65, 78], .con 551), ([65, 83, 73, 78], .con 558), ([65, 67, 79, 83], .con 565), ([65, 84, 65, 78], .con 572), ([65, 84, 65, 78, 50], .con 579), ([83, 73, 78, 72], .con 586), ([67, 79, 83, 72], .con 593), ([84, 65, 78, 72], .con 600)]
noncomputable def cpxD : List (List Nat × AV) := [([67, 65, 66, 83], .con 614), ([67, 83, 81, 82, 84], .con 621), ([67, 69, 88, 80], .con 628), ([67, 76, 79, 71], .con 635), ([67, 83, 73, 78], .con 642), ([67, 67, 79, 83], .con 649)]
noncomputable def allD : List (List Nat × AV) := [([73, 78, 84], .con 719), ([82, 69, 65, 76], .con 726), ([68, 66, 76, 69], .con 733), ([67, 77, 80, 76, 88], .con 740), ([67, 67, 77, 80, 76, 88], .con 747), ([65, 73, 78, 84], .con 754), ([65, 78, 73, 78, 84], .con 761), ([78, 73, 78, 84], .con 768), ([65, 66, 83], .con 775), ([77, 79, 68], .con 782), ([83, 73, 71, 78], .con 789), ([68, 73, 77], .con 803), ([68, 80, 82, 79, 68], .con 810), ([77, 65, 88], .con 824), ([77, 73, 78], .con 831), ([65, 77, 65, 88, 48], .con 838), ([65, 77, 73, 78, 48], .con 845), ([77, 65, 88, 49], .con 852), ([77, 73, 78, 49], .con 859), ([65, 73, 77, 65, 71], .con 866), ([67, 79, 78, 74, 71], .con 873), ([73, 67, 72, 65, 82], .con 887), ([67, 72, 65, 82], .con 894), ([76, 69, 78], .con 901), ([73, 78, 68, 69, 88], .con 908), ([76, 71, 69], .con 915), ([76, 71, 84], .con 922), ([76, 76, 69], .con 929), ([76, 76, 84], .con 936), ([83, 81, 82, 84], .con 509), ([69, 88, 80], .con 516), ([76, 79, 71], .con 523), ([76, 79, 71, 49, 48], .con 530), ([83, 73, 78], .con 537), ([67, 79, 83], .con 544), ([84, 65, 78], .con 551), ([65, 83, 73, 78], .con 558), ([65, 67, 79, 83], .con 565), ([65, 84, 65, 78], .con 572), ([65, 84, 65, 78, 50], .con 579), ([83, 73, 78, 72], .con 586), ([67, 79, 83, 72], .con 593), ([84, 65, 78, 72], .con 600), ([67, 65, 66, 83], .con 614), ([67, 83, 81, 82, 84], .con 621), ([67, 69, 88, 80], .con 628), ([67, 76, 79, 71], .con 635), ([67, 83, 73, 78], .con 642), ([67, 67, 79, 83], .con 649)]

noncomputable abbrev w_found : List Nat := [102, 111, 117, 110, 100]
noncomputable abbrev w_group : List Nat := [103, 114, 111, 117, 112]
noncomputable abbrev w_name : List Nat := [110, 97, 109, 101]
noncomputable abbrev putAll (F : List (List Nat × AV)) (l : List (List Nat × AV)) : List (List Nat × AV) := l.foldl (fun F q => dput q.1 q.2 F) F
theorem dput_len {α : Type} (x : List Nat) (v : α) : ∀ l : List (List Nat × α), (dput x v l).length ≤ l.length + 1
  | [] => Nat.le_refl _
  | (y, u) :: r => by
    rw [dput_cons]
    by_cases e : x = y
    · rw [if_pos e]; exact Nat.le_succ _
    · rw [if_neg e]; exact Nat.succ_le_succ (dput_len x v r)
theorem grp_loop {C : Ctr} {ex : St → Prop} {R : KE} {n : Nat} {j : Nat} {es : List (List Nat × AV)} {o : Obj} {N : Loc → St → Prop} {st : List (List Nat × AV) → St}
    (h1 : ∀ F, (st F)[24]? = some (.dict F)) (h2 : ∀ F, (st F)[j]? = some (.pin es o)) (h3 : ∀ F F', (st F).set 24 (.dict F') = st F') :
    ∀ (rest : List (List Nat × AV)) (ρ : Loc) (F : List (List Nat × AV)), (∀ q ∈ rest, look q.1 es = some q.2) → look w_found ρ = some (.obj 24) → look w_group ρ = some (.obj j) → F.length + rest.length ≤ 1000 →
    (∀ ρ', look w_found ρ' = some (.obj 24) → N ρ' (st (putAll F rest))) →
    loopL (fun v ρ₁ σ₁ K => isPin σ₁[j]? es o ∧ evSs C ex R (n + 4) [.asg (.sub (.name w_found) (.name w_name)) (.sub (.name w_group) (.name w_name))] ((w_name, v) :: ρ₁) σ₁ K) (rest.map fun p => .str p.1) ρ (st F) N
  | [], ρ, F, _, hf, hg, _, hn => hn ρ hf
  | (x, v) :: rest, ρ, F, hq, hf, hg, hl, hn => by
    show loopL _ (.str x :: rest.map fun p => AV.str p.1) ρ (st F) N
    rw [loopL_cons]
    refine ⟨h2 F, ?_⟩
    have hx : look x es = some v := hq (x, v) (.head _)
    have e1 : look w_found ((w_name, AV.str x) :: ρ) = some (.obj 24) := hf
    have e2 : look w_group ((w_name, AV.str x) :: ρ) = some (.obj j) := hg
    have e3 : look w_name ((w_name, AV.str x) :: ρ) = some (.str x) := rfl
    have e4 : subop (.obj j) (.str x) (st F) = some v := by show rowsV _ _ = _; rw [h2 F]; exact hx
    have hlen : (dput x v F).length ≤ F.length + 1 := dput_len x v F
    rw [List.length_cons] at hl
    have key : loopL (fun v ρ₁ σ₁ K => isPin σ₁[j]? es o ∧ evSs C ex R (n + 4) [.asg (.sub (.name w_found) (.name w_name)) (.sub (.name w_group) (.name w_name))] ((w_name, v) :: ρ₁) σ₁ K) (rest.map fun p => AV.str p.1) ((w_name, AV.str x) :: ρ) (st (dput x v F)) N :=
      grp_loop h1 h2 h3 rest _ _ (fun q hq' => hq q (.tail _ hq')) hf hg (by lia) hn
    refine osB_i (o := look w_group _) e2 ?_
    refine osB_i (o := subop _ _ _) e4 ?_
    refine osB_i (o := look w_found _) e1 ?_
    refine osB_i (o := ((st F)[24]?).bind asDict) (by rw [h1]; rfl) ?_
    refine ⟨by lia, ?_⟩
    show loopL _ _ _ ((st F).set 24 (.dict (dput x v F))) N
    rw [h3]
    exact key
section
variable {p : Par} {log told : List Int} {g : St} {k : Nat} {σ : St} {ex : St → Prop} {Q : KE}
theorem c_numops (h : Q (.obj σ.length) (σ ++ [.dict numD])) : CC (k + 1) (.top 880) [] σ ex Q := by
  refine cn_top rfl ⟨rfl, 60, ?_⟩
  walk_at "s"
  exact .inl h
theorem c_txtops (h : Q (.obj σ.length) (σ ++ [.dict txtD])) : CC (k + 1) (.top 943) [] σ ex Q := by
  refine cn_top rfl ⟨rfl, 60, ?_⟩
  walk_at "s"
  exact .inl h
theorem c_mthops (h : Q (.obj σ.length) (σ ++ [.dict mthD])) : CC (k + 1) (.top 607) [] σ ex Q := by
  refine cn_top rfl ⟨rfl, 60, ?_⟩
  walk_at "s"
  exact .inl h
theorem c_cpxops (h : Q (.obj σ.length) (σ ++ [.dict cpxD])) : CC (k + 1) (.top 656) [] σ ex Q := by
  refine cn_top rfl ⟨rfl, 60, ?_⟩
  walk_at "s"
  exact .inl h
theorem allD_eq : putAll (putAll (putAll numD txtD) mthD) cpxD = allD := by kernel_rfl
theorem look_self (l : List (List Nat × AV)) (h : (l.map (·.1)).Nodup) : ∀ q ∈ l, look q.1 l = some q.2 := by
  induction l with
  | nil => intro q hq; cases hq
  | cons a r ih =>
    obtain ⟨x, v⟩ := a
    rw [List.map_cons, List.nodup_cons] at h
    intro q hq
    rw [look_cons]
    rcases List.mem_cons.mp hq with rfl | hq
    · exact if_pos rfl
    · rw [if_neg (fun e => h.1 (List.mem_map.mpr ⟨q, hq, e⟩))]
      exact ih h.2 q hq
theorem c_all (h : Q (.obj 24) (S p log told [.dict allD, .dict txtD, .dict mthD, .dict cpxD])) : CC (k + 2) (.top 950) [] (S p log told []) ex Q := by
  refine cn_top rfl ⟨rfl, 60, ?_⟩
  walk_at "s"
  refine c_numops ?_
  walk_at "s"
  refine .inl ?_
  walk_at "s"
  refine c_txtops ?_
  walk_at "s"
  refine c_mthops ?_
  walk_at "s"
  refine c_cpxops ?_
  walk_at "s"
  refine .inr ?_
  conv => whnf
  intro o
  refine grp_loop (o := o) (j := 25) (es := txtD) (st := fun F => S p log told [.dict F, .pin txtD o, .dict mthD, .dict cpxD]) (fun _ => rfl) (fun _ => rfl) (fun _ _ => rfl) txtD _ numD (look_self _ (by decide)) rfl rfl (by decide) fun ρ hρ => ?_
  refine ⟨rfl, ?_⟩
  conv => whnf
  refine .inr ?_
  conv => whnf
  intro o2
  refine grp_loop (o := o2) (j := 26) (es := mthD) (st := fun F => S p log told [.dict F, .dict txtD, .pin mthD o2, .dict cpxD]) (fun _ => rfl) (fun _ => rfl) (fun _ _ => rfl) mthD _ (putAll numD txtD) (look_self _ (by decide)) hρ rfl (by decide) fun ρ2 hρ2 => ?_
  refine ⟨rfl, ?_⟩
  conv => whnf
  refine .inr ?_
  conv => whnf
  intro o3
  refine grp_loop (o := o3) (j := 27) (es := cpxD) (st := fun F => S p log told [.dict F, .dict txtD, .dict mthD, .pin cpxD o3]) (fun _ => rfl) (fun _ => rfl) (fun _ _ => rfl) cpxD _ (putAll (putAll numD txtD) mthD) (look_self _ (by decide)) hρ2 rfl (by decide) fun ρ3 hρ3 => ?_
  refine ⟨rfl, ?_⟩
  rw [allD_eq]
  conv => whnf
  rw [show look [102, 111, 117, 110, 100] ρ3 = some (.obj 24) from hρ3]
  exact .inl h
end
end
section
open PySem PySem.W PyProof.Rows PySem.Calls
section
variable {p : Par} {log told : List Int} {g : St} {k : Nat} {σ : St} {ex : St → Prop} {Q : KE}
noncomputable abbrev gT : St := [.dict allD, .dict txtD, .dict mthD, .dict cpxD]
theorem c_value_by {n : List Nat} {a : Addr} {kd : Int} {ks : List AV} {vs : AV} (hn : look n allD = some (.con a)) (hk : kd = 0 ∨ kd = 5)
    (h : CC k (.top a) [.lst (.int kd :: ks), vs, .obj 9] (S p log told gT) (DoneX (S p log told gT) ex) (Done (S p log told gT) Q)) : CC (k + 1) (.top 957) [.obj 24, .str n, .lst (.int kd :: ks), vs, .obj 9] (S p log told gT) ex Q := by
  refine cn_top rfl ⟨rfl, 60, ?_⟩
  (walk_at "s") <;> (conv => whnf)
  refine sel_rf (by rw [hn]; rfl) ?_
  conv => whnf
  rw [show subop (.obj 24) (.str n) (S p log told gT) = some (.con a) from hn]
  conv => whnf
  exact h
theorem c_value_by0 {n : List Nat} {kd : Int} {ks : List AV} {vs : AV} (hn : look n allD = none) (hk : kd = 0 ∨ kd = 5)
    (h : ex (S p log told gT)) : CC (k + 1) (.top 957) [.obj 24, .str n, .lst (.int kd :: ks), vs, .obj 9] (S p log told gT) ex Q := by
  refine cn_top rfl ⟨rfl, 60, ?_⟩
  (walk_at "s") <;> (conv => whnf)
  refine sel_rt (by rw [hn]; rfl) ?_
  conv => whnf
  exact .inl h
/-- a value that is no object -/
noncomputable def Plain (v : AV) : Prop := ∀ m, bndA m v = true
theorem Bg0 : Bg [] := fun a h => by cases h
theorem Res.dn {r : Option AV} {p log told ex Q} (hr : ∀ v, r = some v → Plain v) (h : Res r ex Q (S p log told [])) : Res r (DoneX (S p log told []) ex) (Done (S p log told []) Q) (S p log told gT) := by
  cases r with
  | none => exact doneX_S Bg0 (show ex (S p log told []) from h)
  | some v => exact done_S Bg0 (fun m _ => hr v rfl m) (show Q v (S p log told []) from h)
/-- a function of the table, called -/
theorem c_intr {n : List Nat} {a : Addr} {kd : Int} {ks : List AV} {vs : AV} {r : Option AV} (hn : look n allD = some (.con a)) (hk : kd = 0 ∨ kd = 5) (hr : ∀ v, r = some v → Plain v)
    (h : ∀ ex Q, Res r ex Q (S p log told gT) → CC (k + 1) (.top a) [.lst (.int kd :: ks), vs, .obj 9] (S p log told gT) ex Q) (hQ : Res r ex Q (S p log told [])) : CC (k + 3) (.top 964) [.str n, .lst (.int kd :: ks), vs, .obj 9] (S p log told []) ex Q := by
  refine cn_top rfl ⟨rfl, 60, ?_⟩
  walk_at "s"
  refine c_all ?_
  walk_at "s"
  exact c_value_by hn hk (h _ _ (hQ.dn hr).up)
theorem c_intr0 {n : List Nat} {kd : Int} {ks : List AV} {vs : AV} (hn : look n allD = none) (hk : kd = 0 ∨ kd = 5) (h : ex (S p log told [])) : CC (k + 3) (.top 964) [.str n, .lst (.int kd :: ks), vs, .obj 9] (S p log told []) ex Q := by
  refine cn_top rfl ⟨rfl, 60, ?_⟩
  walk_at "s"
  refine c_all ?_
  walk_at "s"
  exact c_value_by0 hn hk (doneX_S Bg0 h)
end
/-! ## the evaluator's side -/
section
variable {p : Par} {d d' : Nat} {ms ms' : List Int} {r r' : Option AV} {t : AV} {w : List Nat}
noncomputable def EvC (p : Par) (t : AV) (d : Nat) (ms : List Int) (r : Option AV) : Prop := ∀ n, d ≤ n → ∀ log told ex Q, told.length + ms.length ≤ 1000 → Res r ex Q (S p log (told ++ ms) []) → CC n (.top 1104) [.obj 13, t] (S p log told []) ex Q
/-- a call of an intrinsic, by eval_intr itself -/
noncomputable def IvC (p : Par) (t : AV) (d : Nat) (ms : List Int) (r : Option AV) : Prop := ∀ n, d ≤ n → ∀ log told ex Q, told.length + ms.length ≤ 1000 → Res r ex Q (S p log (told ++ ms) []) → CC n (.top 1177) [.obj 13, t] (S p log told []) ex Q
noncomputable def PlC (p : Par) (t : AV) (d : Nat) (ms : List Int) (r : Option AV) : Prop := ∀ n, d ≤ n → ∀ log told ex Q, told.length + ms.length ≤ 1000 → Res r ex Q (S p log (told ++ ms) []) → CC n (.top 1130) [.obj 13, t] (S p log told []) ex Q
theorem EvC.up (h : EvC p t d ms r) (hd : d ≤ d') : EvC p t d' ms r := fun n hn => h n (by lia)
theorem IvC.up (h : IvC p t d ms r) (hd : d ≤ d') : IvC p t d' ms r := fun n hn => h n (by lia)
theorem PlC.up (h : PlC p t d ms r) (hd : d ≤ d') : PlC p t d' ms r := fun n hn => h n (by lia)
theorem splitN {j n d : Nat} (h : d + j ≤ n) : ∃ k, n = k + j ∧ d ≤ k := ⟨n - j, by lia, by lia⟩
theorem S_tell (p : Par) (log told : List Int) (m : Int) : (S p log told []).set 7 (.list (intL told ++ [.int m])) = S p log (told ++ [m]) [] := by
  unfold S intL
  rw [List.map_append]; rfl
theorem ev_tell {kd m : Int} {v : AV} : EvC p (.tup [.str w_tell, .int kd, .int m, v]) 3 [m] (some v) := fun n hn log told ex Q hl h => by
  obtain ⟨k, rfl, _⟩ := splitN (j := 3) (d := 0) hn
  refine cn_top rfl ⟨rfl, 60, ?_⟩
  (walk_at "s") <;> (conv => whnf)
  rw [show k + 2 = (k + 1) + 1 from rfl, Cn_clo]
  refine ⟨by simp [intL] at hl ⊢; lia, ?_⟩
  rw [S_tell]
  exact .inl h
theorem ev_cst {kd : Int} {v : AV} : EvC p (.tup [.str w_const, .int kd, v]) 3 [] (some v) := fun n hn log told ex Q hl h => by
  obtain ⟨k, rfl, _⟩ := splitN (j := 3) (d := 0) hn
  rw [List.append_nil] at h
  refine cn_top rfl ⟨rfl, 60, ?_⟩
  walk_at "s"
  refine cn_top rfl ⟨rfl, 60, ?_⟩
  walk_at "s"
  exact .inl (.inl h)
theorem ev_nothing {kd : Int} : EvC p (.tup [.str w_nothing, .int kd]) 3 [] none := fun n hn log told ex Q hl h => by
  obtain ⟨k, rfl, _⟩ := splitN (j := 3) (d := 0) hn
  rw [List.append_nil] at h
  refine cn_top rfl ⟨rfl, 60, ?_⟩
  walk_at "s"
  exact .inl h
/-- a refusal on its way -/
theorem Res.no {ex : St → Prop} {Q : KE} {s : St} (h : ex s) : Res none ex Q s := h
noncomputable def bindI (r : Option AV) (f : Int → Option AV) : Option AV := match r with
  | some (.int n) => f n
  | _ => none
noncomputable abbrev isI (r : Option AV) (P : Int → Prop) : Prop := ∀ v, r = some v → ∃ n, v = .int n ∧ P n
theorem isI_cases {r : Option AV} {P : Int → Prop} (h : isI r P) : r = none ∨ ∃ n, r = some (.int n) ∧ P n := by
  cases r with
  | none => exact .inl rfl
  | some v => obtain ⟨n, rfl, q⟩ := h v rfl; exact .inr ⟨n, rfl, q⟩
theorem ev_neg {t : AV} {P : Int → Prop} (h : EvC p t d ms r) (hr : isI r P) : EvC p (.tup [.str w_neg, .int 0, t]) (d + 4) ms (bindI r fun n => (kept (-n)).map .int) := fun n hn log told ex Q hl hq => by
  obtain ⟨k, rfl, hk⟩ := splitN (j := 4) hn
  refine cn_top rfl ⟨rfl, 60, ?_⟩
  walk_at "s"
  refine cn_top rfl ⟨rfl, 60, ?_⟩
  walk_at "s"
  refine h _ (by lia) _ _ _ _ hl ?_
  rcases isI_cases hr with rfl | ⟨n, rfl, q⟩
  · exact .inl (.inl hq)
  · walk_at "s"
    exact c_unary_neg hq.up.up
theorem ev_not {t : AV} {b : Option Bool} (h : EvC p t d ms (b.map .bool)) : EvC p (.tup [.str w_not, .int 4, t]) (d + 4) ms (b.map fun b => .bool !b) := fun n hn log told ex Q hl hq => by
  obtain ⟨k, rfl, hk⟩ := splitN (j := 4) hn
  refine cn_top rfl ⟨rfl, 60, ?_⟩
  walk_at "s"
  refine cn_top rfl ⟨rfl, 60, ?_⟩
  walk_at "s"
  refine h _ (by lia) _ _ _ _ hl ?_
  cases b with
  | none => exact .inl (.inl hq)
  | some b =>
    walk_at "s"
    exact c_unary_not (.inl (.inl hq))
noncomputable def catM (x : Option (List Nat)) (ms ms' : List Int) : List Int := match x with
  | none => ms
  | some _ => ms ++ ms'
noncomputable def catR : Option (List Nat) → Option (List Nat) → Option AV
  | some x, some y => some (.str (x ++ y))
  | _, _ => none
theorem ev_cat {t u : AV} {x y : Option (List Nat)} (h : EvC p t d ms (x.map .str)) (h' : EvC p u d ms' (y.map .str)) (hx : ∀ s, x = some s → s.length ≤ 500) (hy : ∀ s, y = some s → s.length ≤ 500) :
    EvC p (.tup [.str w_cat, .int 5, t, u]) (d + 4) (catM x ms ms') (catR x y) := fun n hn log told ex Q hl hq => by
  obtain ⟨k, rfl, hk⟩ := splitN (j := 4) hn
  refine cn_top rfl ⟨rfl, 60, ?_⟩
  walk_at "s"
  refine cn_top rfl ⟨rfl, 60, ?_⟩
  walk_at "s"
  cases x with
  | none =>
    dsimp only [catM] at hl hq
    refine h _ (by lia) _ _ _ _ hl ?_
    exact .inl (.inl hq)
  | some x =>
    dsimp only [catM] at hl hq
    rw [List.length_append] at hl
    refine h _ (by lia) _ _ _ _ (by lia) ?_
    walk_at "s"
    refine h' _ (by lia) _ _ _ _ (by rw [List.length_append]; lia) ?_
    rw [List.append_assoc]
    cases y with
    | none => exact .inl (.inl hq)
    | some y =>
      have := hx _ rfl
      have := hy _ rfl
      walk_at "s"
      exact .inl (.inl hq)
theorem ev_conv_truth {t : List AV} (h : EvC p (.tup (.str w :: .int 4 :: t)) d ms r) : EvC p (.tup [.str w_conv, .int 0, .tup (.str w :: .int 4 :: t)]) (d + 4) ms none := fun n hn log told ex Q hl hq => by
  obtain ⟨k, rfl, hk⟩ := splitN (j := 4) hn
  refine cn_top rfl ⟨rfl, 60, ?_⟩
  walk_at "s"
  refine cn_top rfl ⟨rfl, 60, ?_⟩
  walk_at "s"
  refine h _ (by lia) _ _ _ _ hl ?_
  cases r with
  | none => exact .inl (.inl hq)
  | some b =>
    walk_at "s"
    exact c_conv_truth (.inl (.inl hq))
theorem ev_conv_cst {m e : Int} (hm : m.natAbs ≤ 999) (h1 : -1 ≤ e) (h2 : e ≤ 2) : EvC p (.tup [.str w_conv, .int 0, .tup [.str w_const, .int 1, .tup [.int m, .int e]]]) 7 [] ((kept (cutR m e)).map .int) := fun n hn log told ex Q hl hq => by
  obtain ⟨k, rfl, hk⟩ := splitN (j := 7) (d := 0) hn
  refine cn_top rfl ⟨rfl, 60, ?_⟩
  walk_at "s"
  refine cn_top rfl ⟨rfl, 60, ?_⟩
  walk_at "s"
  refine ev_cst _ (by lia) _ _ _ _ hl ?_
  walk_at "s"
  exact c_conv_whole hm h1 h2 hq.up.up
theorem ev_conv_whole {t : List AV} (h : EvC p (.tup (.str w :: .int 0 :: t)) d ms r) (hr : isI r fun n => n.natAbs ≤ 999) (hd : 10 ≤ d) :
    EvC p (.tup [.str w_conv, .int 0, .tup [.str w_conv, .int 1, .tup (.str w :: .int 0 :: t)]]) (d + 7) ms (bindI r fun n => (kept n).map .int) := fun n hn log told ex Q hl hq => by
  obtain ⟨k, rfl, hk⟩ := splitN (j := 7) hn
  obtain ⟨k, rfl⟩ : ∃ k', k = k' + 6 := ⟨k - 6, by lia⟩
  refine cn_top rfl ⟨rfl, 60, ?_⟩
  walk_at "s"
  refine cn_top rfl ⟨rfl, 60, ?_⟩
  walk_at "s"
  refine cn_top rfl ⟨rfl, 60, ?_⟩
  walk_at "s"
  refine cn_top rfl ⟨rfl, 60, ?_⟩
  walk_at "s"
  refine h _ (by lia) _ _ _ _ hl ?_
  rcases isI_cases hr with rfl | ⟨n, rfl, q⟩
  · exact .inl (.inl (.inl (.inl hq)))
  · walk_at "s"
    refine c_conv_real q fun a e q1 q2 q3 => ?_
    refine .inl (.inl ?_)
    walk_at "s"
    refine c_conv_whole (small_of q q1 q3) (by lia) q2 ?_
    rw [cutR, if_pos q1, ← q3]
    exact hq.up.up
end
end
section
open PySem PySem.W PyProof.Rows PySem.Calls
section
variable {p : Par} {log told : List Int} {g : St} {k : Nat} {σ : St} {ex : St → Prop} {Q : KE}
noncomputable def elN (v : Int) : Option Nat := if 1 ≤ v ∧ v ≤ 3 then some (1 + v.toNat) else none
/-- a stretch of one of the two texts -/
structure TP where
  t : Bool
  b : Nat
  n : Nat
noncomputable def off : Bool → Nat
  | false => 0
  | true => 3
noncomputable def TP.av (x : TP) : AV := .tup [.int 5, .int ((off x.t + x.b : Nat) : Int), .int x.n, .tup []]
noncomputable def numPl (a : Nat) : AV := .tup [.int 0, .int a, .int 0, .tup []]
noncomputable def elT (v : Int) : Option TP := if 1 ≤ v ∧ v ≤ 2 then some ⟨true, 2 * (v.toNat - 1), 2⟩ else none
theorem c_unit5 {n : AV} (h : Q n σ) : CC (k + 1) (.top 1062) [.int 5, n] σ ex Q := by
  refine cn_top rfl ⟨rfl, 60, ?_⟩
  walk_at "s"
  exact .inl h
theorem c_unit0 {n : AV} (h : Q (.int 1) σ) : CC (k + 2) (.top 1062) [.int 0, n] σ ex Q := by
  refine cn_top rfl ⟨rfl, 60, ?_⟩
  walk_at "s"
  exact c_units (.inl h)
theorem c_elemN {v : Int} (h : Res ((elN v).map numPl) ex Q σ) : CC (k + 3) (.top 1069) [.tup [.int 0, .int 2, .int 0, .tup [.tup [.int 1, .int 3]]], .lst [.int v]] σ ex Q := by
  refine cn_top rfl ⟨rfl, 60, ?_⟩
  walk_at "s"
  refine .inl ?_
  walk_at "s"
  · rw [elN, if_neg (by lia)] at h; exact .inl h
  · rw [elN, if_neg (by lia)] at h; exact .inl h
  · refine c_unit0 ?_
    conv => whnf
    refine ⟨.inr (by decide), ?_⟩
    walk_at "s"
    rw [elN, if_pos (by lia)] at h
    refine .inl ?_
    rw [show (2 + (0 + (v - 1) * 1) * 1 : Int) = ((1 + v.toNat : Nat) : Int) by lia]
    exact h
theorem c_elemT {v : Int} (h : Res ((elT v).map TP.av) ex Q σ) : CC (k + 3) (.top 1069) [.tup [.int 5, .int 3, .int 2, .tup [.tup [.int 1, .int 2]]], .lst [.int v]] σ ex Q := by
  refine cn_top rfl ⟨rfl, 60, ?_⟩
  walk_at "s"
  refine .inl ?_
  walk_at "s"
  · rw [elT, if_neg (by lia)] at h; exact .inl h
  · rw [elT, if_neg (by lia)] at h; exact .inl h
  · refine c_unit5 ?_
    conv => whnf
    refine ⟨.inr (by decide), ?_⟩
    walk_at "s"
    rw [elT, if_pos (by lia)] at h
    refine .inl ?_
    rw [show (3 + (0 + (v - 1) * 1) * 2 : Int) = ((3 + 2 * (v.toNat - 1) : Nat) : Int) by lia]
    exact h
noncomputable def subO (x : TP) (lo hi : Option Int) : Option TP := if 1 ≤ lo.getD 1 ∧ lo.getD 1 ≤ hi.getD x.n ∧ hi.getD x.n ≤ x.n then some ⟨x.t, x.b + ((lo.getD 1).toNat - 1), (hi.getD x.n - lo.getD 1 + 1).toNat⟩ else none
theorem sub_fin {t : Bool} {b n : Nat} {l m : Int} {lo hi : Option Int} (h : Res ((subO ⟨t, b, n⟩ lo hi).map TP.av) ex Q σ) (hl : lo.getD 1 = l) (hm : hi.getD (n : Int) = m) (h1 : ¬ l < 1) (h2 : ¬ m < l) (h3 : ¬ (n : Int) < m) :
    Q (.tup [.int 5, .int (((off t + b : Nat) : Int) + l - 1), .int (m - l + 1), .tup []]) σ := by
  unfold subO at h
  dsimp only at h
  rw [hl, hm, if_pos ⟨by lia, by lia, by lia⟩] at h
  rw [show (((off t + b : Nat) : Int) + l - 1) = ((off t + (b + (l.toNat - 1)) : Nat) : Int) by lia, show m - l + 1 = (((m - l + 1).toNat : Nat) : Int) by lia]
  exact h
theorem sub_no {t : Bool} {b n : Nat} {l m : Int} {lo hi : Option Int} (h : Res ((subO ⟨t, b, n⟩ lo hi).map TP.av) ex Q σ) (hl : lo.getD 1 = l) (hm : hi.getD (n : Int) = m) (h1 : l < 1 ∨ m < l ∨ (n : Int) < m) : ex σ := by
  unfold subO at h
  dsimp only at h
  rw [hl, hm, if_neg (by lia)] at h
  exact h
theorem c_sub_place {x : TP} {lo hi : Option Int} (h : Res ((subO x lo hi).map TP.av) ex Q σ) : CC (k + 1) (.top 1076) [x.av, intO lo, intO hi] σ ex Q := by
  obtain ⟨t, b, n⟩ := x
  refine cn_top rfl ⟨rfl, 60, ?_⟩
  rcases lo with _ | lo <;> rcases hi with _ | hi
  all_goals (walk_at "s")
  all_goals (try dsimp only at *)
  all_goals first
    | exact .inl (sub_fin h rfl rfl (by lia) (by lia) (by lia))
    | exact .inl (sub_no h rfl rfl (by simp only [Option.getD_none, Option.getD_some]; lia))
/-! ### places -/
variable {d d1 d2 : Nat} {ms ms1 ms2 : List Int} {r : Option AV} {t : AV}
theorem pl_var {kd : Int} {n : List Nat} (hn : n ∈ nameL) : PlC p (.tup [.str w_var, .int kd, .str n]) 2 [] (placeAt n) := fun n' hn' log told ex Q hl hq => by
  obtain ⟨k, rfl, hk⟩ := splitN (j := 2) (d := 0) hn'
  rw [List.append_nil] at hq
  refine cn_top rfl ⟨rfl, 60, ?_⟩
  walk_at "s"
  refine c_named_place hn ?_
  cases h : placeAt n with
  | none => rw [h] at hq; exact .inl hq
  | some v =>
    rw [h] at hq
    walk_at "s"
    exact .inl hq
theorem pl_S : PlC p (.tup [.str w_var, .int 5, .str w_S]) 2 [] (some (TP.av ⟨false, 0, 3⟩)) := pl_var (by decide)
theorem pl_elemN {v : Int} (h : EvC p t d ms (some (.int v))) (hd : 3 ≤ d) : PlC p (.tup [.str w_elem, .int 0, .str w_N, .lst [t]]) (d + 1) ms ((elN v).map numPl) := fun n' hn' log told ex Q hl hq => by
  obtain ⟨k, rfl, hk⟩ := splitN (j := 1) hn'
  obtain ⟨k, rfl⟩ : ∃ k', k = k' + 3 := ⟨k - 3, by lia⟩
  refine cn_top rfl ⟨rfl, 60, ?_⟩
  walk_at "s"
  refine c_named_place (n := w_N) (by decide) ?_
  walk_at "s"
  refine h _ (by lia) _ _ _ _ hl ?_
  walk_at "s"
  exact c_elemN hq.up
theorem pl_elemT {v : Int} (h : EvC p t d ms (some (.int v))) (hd : 3 ≤ d) : PlC p (.tup [.str w_elem, .int 5, .str w_T, .lst [t]]) (d + 1) ms ((elT v).map TP.av) := fun n' hn' log told ex Q hl hq => by
  obtain ⟨k, rfl, hk⟩ := splitN (j := 1) hn'
  obtain ⟨k, rfl⟩ : ∃ k', k = k' + 3 := ⟨k - 3, by lia⟩
  refine cn_top rfl ⟨rfl, 60, ?_⟩
  walk_at "s"
  refine c_named_place (n := w_T) (by decide) ?_
  walk_at "s"
  refine h _ (by lia) _ _ _ _ hl ?_
  walk_at "s"
  exact c_elemT hq.up
/-- an end of a substring: nothing, or a tree that tells -/
noncomputable def EndC (p : Par) (t : AV) (d : Nat) (ms : List Int) (v : Option Int) : Prop := (t = .none ∧ ms = [] ∧ v = none) ∨ ∃ l i, t = .tup l ∧ EvC p t d ms (some (.int i)) ∧ v = some i
theorem c_bound_of {v : Option Int} (h : EndC p t d ms v) {n : Nat} (hn : d + 1 ≤ n) (hl : told.length + ms.length ≤ 1000) (hq : Q (intO v) (S p log (told ++ ms) [])) : CC n (.top 1118) [.obj 13, t] (S p log told []) ex Q := by
  obtain ⟨k, rfl, hk⟩ := splitN (j := 1) hn
  rcases h with ⟨rfl, rfl, rfl⟩ | ⟨l, i, rfl, h, rfl⟩
  · rw [List.append_nil] at hq
    refine cn_top rfl ⟨rfl, 60, ?_⟩
    walk_at "s"
    exact .inl hq
  · refine cn_top rfl ⟨rfl, 60, ?_⟩
    walk_at "s"
    exact h _ (by lia) _ _ _ _ hl (.inl hq)
theorem pl_sub {x : TP} {lo hi : AV} {vl vh : Option Int} (h : PlC p t d [] (some x.av)) (h1 : EndC p lo d ms1 vl) (h2 : EndC p hi d ms2 vh) (hd : 3 ≤ d) : PlC p (.tup [.str w_substr, .int 5, t, lo, hi]) (d + 3) (ms1 ++ ms2) ((subO x vl vh).map TP.av) := fun n' hn' log told ex Q hl hq => by
  obtain ⟨k, rfl, hk⟩ := splitN (j := 3) hn'
  rw [List.length_append] at hl
  refine cn_top rfl ⟨rfl, 60, ?_⟩
  walk_at "s"
  refine cn_top rfl ⟨rfl, 60, ?_⟩
  walk_at "s"
  refine h _ (by lia) _ _ _ _ (by simp; lia) ?_
  rw [List.append_nil]
  walk_at "s"
  refine c_bound_of h1 (by lia) (by lia) ?_
  walk_at "s"
  refine c_bound_of h2 (by lia) (by rw [List.length_append]; lia) ?_
  rw [List.append_assoc]
  exact c_sub_place hq.up.up
/-- a word of a place -/
noncomputable def plW (w : List Nat) : Prop := w = w_var ∨ w = w_elem ∨ w = w_substr
theorem ev_num {w : List Nat} {l : List AV} {a : Option Nat} (hw : plW w) (h : PlC p (.tup (.str w :: l)) d ms (a.map numPl)) (ha : ∀ i, a = some i → i < 5) (hd : 3 ≤ d) : EvC p (.tup (.str w :: l)) (d + 3) ms ((a.bind (numAt p)).map .int) := fun n' hn' log told ex Q hl hq => by
  obtain ⟨k, rfl, hk⟩ := splitN (j := 3) hn'
  obtain ⟨k, rfl⟩ : ∃ k', k = k' + 3 := ⟨k - 3, by lia⟩
  rcases hw with rfl | rfl | rfl
  all_goals
    refine cn_top rfl ⟨rfl, 60, ?_⟩
    walk_at "s"
    refine cn_top rfl ⟨rfl, 60, ?_⟩
    walk_at "s"
    refine h _ (by lia) _ _ _ _ hl ?_
    cases a with
    | none => exact .inl (.inl hq)
    | some a =>
      walk_at "s"
      exact c_load_n (ha _ rfl) hq.up.up
noncomputable def sideL (p : Par) : Bool → List (Option Nat)
  | false => [p.s0, p.s1, p.s2]
  | true => [p.t0, p.t1, p.t2, p.t3]
noncomputable def TP.ok (x : TP) : Prop := x.b + x.n ≤ (if x.t then 4 else 3) ∧ 1 ≤ x.n
noncomputable def TP.text (p : Par) (x : TP) : Option (List Nat) := textOf (cutL (sideL p x.t) x.b (x.b + x.n))
theorem text_at (x : TP) (hx : x.ok) : textOf (cutL (chs p) (off x.t + x.b) (off x.t + x.b + x.n)) = x.text p := by
  obtain ⟨t, b, n⟩ := x
  cases t with
  | false =>
    have h : b + n ≤ 3 := hx.1
    unfold TP.text cutL
    show textOf ((([p.s0, p.s1, p.s2] ++ [p.t0, p.t1, p.t2, p.t3]).drop (0 + b)).take (0 + b + n - (0 + b))) = textOf (([p.s0, p.s1, p.s2].drop b).take (b + n - b))
    rw [Nat.zero_add, List.drop_append, List.take_append, List.length_drop]
    have e : b + n - b - ([p.s0, p.s1, p.s2].length - b) = 0 := by show b + n - b - (3 - b) = 0; lia
    rw [e, List.take_zero, List.append_nil]
  | true =>
    unfold TP.text cutL
    show textOf ((([p.s0, p.s1, p.s2] ++ [p.t0, p.t1, p.t2, p.t3]).drop (3 + b)).take (3 + b + n - (3 + b))) = textOf (([p.t0, p.t1, p.t2, p.t3].drop b).take (b + n - b))
    rw [List.drop_append, List.drop_of_length_le (show [p.s0, p.s1, p.s2].length ≤ 3 + b by show 3 ≤ 3 + b; lia), List.nil_append]
    rw [show 3 + b - [p.s0, p.s1, p.s2].length = b by show 3 + b - 3 = b; lia, show 3 + b + n - (3 + b) = b + n - b by lia]
theorem ev_text {w : List Nat} {l : List AV} {x : Option TP} (hw : plW w) (h : PlC p (.tup (.str w :: l)) d ms (x.map TP.av)) (hx : ∀ i, x = some i → i.ok) (hd : 3 ≤ d) : EvC p (.tup (.str w :: l)) (d + 3) ms ((x.bind (TP.text p)).map .str) := fun n' hn' log told ex Q hl hq => by
  obtain ⟨k, rfl, hk⟩ := splitN (j := 3) hn'
  obtain ⟨k, rfl⟩ : ∃ k', k = k' + 3 := ⟨k - 3, by lia⟩
  rcases hw with rfl | rfl | rfl
  all_goals
    refine cn_top rfl ⟨rfl, 60, ?_⟩
    walk_at "s"
    refine cn_top rfl ⟨rfl, 60, ?_⟩
    walk_at "s"
    refine h _ (by lia) _ _ _ _ hl ?_
    cases x with
    | none => exact .inl (.inl hq)
    | some x =>
      have hok := hx _ rfl
      have hb : off x.t + x.b + x.n ≤ 7 := by
        have := hok.1
        cases hxt : x.t <;> rw [hxt] at this <;> simp [off] at * <;> lia
      walk_at "s"
      refine c_load_t hb ?_
      rw [text_at x hok]
      exact hq.up.up
end
end
section
open PySem PySem.W PyProof.Rows PySem.Calls
noncomputable abbrev w_run : List Nat := [114, 117, 110]
noncomputable abbrev w_one : List Nat := [111, 110, 101]
section
variable {p : Par} {log told : List Int} {g : St} {k : Nat} {σ : St} {ex : St → Prop} {Q : KE} {d d' : Nat} {ms : List Int} {r : Option AV}
noncomputable def noPl (w : List Nat) : Prop := w = w_tell ∨ w = w_cat ∨ w = w_intr
theorem c_has_place {w : List Nat} {l : List AV} (hw : plW w) (h : Q (.bool true) σ) : CC (k + 1) (.top 1137) [.tup (.str w :: l)] σ ex Q := by
  rcases hw with rfl | rfl | rfl
  all_goals
    refine cn_top rfl ⟨rfl, 60, ?_⟩
    walk_at "s"
    exact .inl h
theorem c_has_place0 {w : List Nat} {l : List AV} (hw : noPl w) (h : Q (.bool false) σ) : CC (k + 1) (.top 1137) [.tup (.str w :: l)] σ ex Q := by
  rcases hw with rfl | rfl | rfl
  all_goals
    refine cn_top rfl ⟨rfl, 60, ?_⟩
    walk_at "s"
    exact .inl h
/-- a row of trees, evaluated from left to right -/
inductive AllC (p : Par) (d : Nat) : List AV → List Int → Option (List AV) → Prop
  | nil : AllC p d [] [] (some [])
  | no {t ts ms} : EvC p t d ms none → AllC p d (t :: ts) ms none
  | cons {t ts ms ms' v r} : EvC p t d ms (some v) → AllC p d ts ms' r → AllC p d (t :: ts) (ms ++ ms') (r.map (v :: ·))
theorem call_one {C : Ctr} {n : Nat} {ρ : Loc} {t : AV} {K : KE} (h1 : look w_run ρ = some (.obj 13)) (h2 : look w_one ρ = some t) (h : C (.top 1104) [.obj 13, t] σ ex K) : evE C ex (n + 4) ρ (.call (.const (.con 1104)) [.name w_run, .name w_one]) σ K := by
  exact osB_i (o := look w_run ρ) h1 (osB_i (o := look w_one ρ) h2 h)
theorem sub_one {C : Ctr} {n : Nat} {ρ : Loc} {w : List Nat} {kd : AV} {l : List AV} {K : KE} (h2 : look w_one ρ = some (.tup (.str w :: kd :: l))) (h : K kd σ) : evE C ex (n + 4) ρ (.sub (.name w_one) (.const (.int 1))) σ K := by
  exact osB_i (o := look w_one ρ) h2 h
theorem comp_all {n m : Nat} {ρ : Loc} (hd : d ≤ m) (hρ : look w_run ρ = some (.obj 13)) : ∀ {ts : List AV} {ms : List Int} {r : Option (List AV)} {told : List Int} {K : List AV → St → Prop}, AllC p d ts ms r → told.length + ms.length ≤ 1000 →
    (match r with | some vs => K vs (S p log (told ++ ms) []) | none => ex (S p log (told ++ ms) [])) →
    compL (fun v σ₁ K => evE (CC m) ex (n + 4) ((w_one, v) :: ρ) (.call (.const (.con 1104)) [.name w_run, .name w_one]) σ₁ K) ts (S p log told []) K
  | _, _, _, told, K, .nil, hl, h => by
    rw [List.append_nil] at h
    exact h
  | _, _, _, told, K, .no (t := t) (ms := ms) h1, hl, h => by
    rw [compL_cons]
    refine call_one (ρ := (w_one, t) :: ρ) hρ rfl ?_
    exact h1 _ hd _ _ _ _ hl h
  | _, _, _, told, K, .cons (t := t) (ms := ms) (ms' := ms') (v := v) (r := r) h1 h2, hl, h => by
    rw [compL_cons]
    refine call_one (ρ := (w_one, t) :: ρ) hρ rfl ?_
    rw [List.length_append, ← Nat.add_assoc] at hl
    refine h1 _ hd _ _ _ _ (Nat.le_trans (Nat.le_add_right _ _) hl) ?_
    refine comp_all hd hρ h2 (by rw [List.length_append]; exact hl) ?_
    rw [List.append_assoc]
    cases r <;> exact h
/-- the kinds of a row -/
inductive KindL : List AV → List AV → Prop
  | nil : KindL [] []
  | cons {w kd l ts ks} : KindL ts ks → KindL (.tup (.str w :: .int kd :: l) :: ts) (.int kd :: ks)
theorem comp_kind {C : Ctr} {n : Nat} {ρ : Loc} : ∀ {ts ks : List AV} {K : List AV → St → Prop}, KindL ts ks → K ks σ →
    compL (fun v σ₁ K => evE C ex (n + 4) ((w_one, v) :: ρ) (.sub (.name w_one) (.const (.int 1))) σ₁ K) ts σ K
  | _, _, K, .nil, h => h
  | _, _, K, .cons (w := w) (kd := kd) (l := l) h1, h => by
    rw [compL_cons]
    refine sub_one (ρ := (w_one, AV.tup (.str w :: .int kd :: l)) :: ρ) rfl ?_
    exact comp_kind h1 h
theorem KindL.len : ∀ {ts ks : List AV}, KindL ts ks → ts.length = ks.length
  | _, _, .nil => rfl
  | _, _, .cons h => by rw [List.length_cons, List.length_cons, h.len]
theorem ev_of_iv {name : List Nat} {kd : Int} {l : AV} (h : IvC p (.tup [.str w_intr, .int kd, .str name, l]) d ms r) : EvC p (.tup [.str w_intr, .int kd, .str name, l]) (d + 1) ms r := fun n' hn' log told ex Q hl hq => by
  obtain ⟨k, rfl, hk⟩ := splitN (j := 1) hn'
  refine cn_top rfl ⟨rfl, 60, ?_⟩
  walk_at "s"
  exact h _ hk _ _ _ _ hl hq.up
theorem iv_len {w : List Nat} {l : List AV} {x : Option TP} {kd : Int} (hw : plW w) (h : PlC p (.tup (.str w :: l)) d ms (x.map TP.av)) (hd : 3 ≤ d) :
    IvC p (.tup [.str w_intr, .int kd, .str w_LEN, .lst [.tup (.str w :: l)]]) (d + 2) ms (x.map fun x => .int x.n) := fun n' hn' log told ex Q hl hq => by
  obtain ⟨k, rfl, hk⟩ := splitN (j := 2) hn'
  refine cn_top rfl ⟨rfl, 60, ?_⟩
  walk_at "s"
  refine c_has_place hw ?_
  walk_at "s"
  refine h _ (by lia) _ _ _ _ hl ?_
  cases x with
  | none => exact .inl hq
  | some x =>
    walk_at "s"
    exact .inl hq
/-- the call of a function of the table, by its values -/
noncomputable def FunC (p : Par) (name : List Nat) (ks : List AV) (d : Nat) (vs : List AV) (r : Option AV) : Prop := ∀ n, d ≤ n → ∀ log told ex Q, Res r ex Q (S p log told []) → CC n (.top 964) [.str name, .lst ks, .lst vs, .obj 9] (S p log told []) ex Q
theorem iv_intr {name : List Nat} {kd : Int} {ts ks : List AV} {vs : Option (List AV)} (h : AllC p d ts ms vs) (hks : KindL ts ks) (hlen : ts.length ≤ 3) (hname : name = w_LEN → ∃ w l, ts = [.tup (.str w :: l)] ∧ noPl w) (hd : 10 ≤ d)
    (hr0 : vs = none → r = none) (hr1 : ∀ l, vs = some l → FunC p name ks d l r) : IvC p (.tup [.str w_intr, .int kd, .str name, .lst ts]) (d + 2) ms r := fun n' hn' log told ex Q hl hq => by
  obtain ⟨k, rfl, hk⟩ := splitN (j := 2) hn'
  obtain ⟨k, rfl⟩ : ∃ k', k = k' + 10 := ⟨k - 10, by lia⟩
  have hk3 : ks.length ≤ 3 := by rw [← hks.len]; exact hlen
  refine cn_top rfl ⟨rfl, 60, ?_⟩
  conv => whnf
  refine sel_of (fun hc => ?_) (fun hc => ?_)
  · conv => whnf
    obtain ⟨w, l, hts, hw⟩ := hname (of_decide_eq_true hc)
    rw [show subop (.lst ts) (.int 0) (S p log told []) = some (.tup (.str w :: l)) by rw [hts]; rfl]
    conv => whnf
    refine c_has_place0 hw ?_
    walk_at "s"
    refine comp_all (by lia) rfl h hl ?_
    cases vs with
    | none => rw [hr0 rfl] at hq; exact .inl hq
    | some vs =>
      walk_at "s"
      refine comp_kind hks ?_
      conv => whnf
      exact hr1 _ rfl _ (by lia) _ _ _ _ hq.up
  · walk_at "s"
    refine comp_all (by lia) rfl h hl ?_
    cases vs with
    | none => rw [hr0 rfl] at hq; exact .inl hq
    | some vs =>
      walk_at "s"
      refine comp_kind hks ?_
      conv => whnf
      exact hr1 _ rfl _ (by lia) _ _ _ _ hq.up
end
end
section
open PySem PySem.W PyProof.Rows PySem.Calls
section
variable {p : Par} {log told : List Int} {g : St} {k : Nat} {σ : St} {ex : St → Prop} {Q : KE} {d d' d1 d2 : Nat} {ms ms' ms1 ms2 : List Int} {r : Option AV} {t : AV}
noncomputable def LawC (p : Par) (t : AV) (d : Nat) (ms : List Int) (r : Option AV) : Prop := ∀ n, d ≤ n → ∀ log told g ex Q, Bg g → log.length + ms.length ≤ 1000 → Q (r.getD .none) (S p (log ++ ms) told g) → CC n (.top 1265) [t, .obj 1, .obj 6] (S p log told g) ex Q
theorem LawC.up (h : LawC p t d ms r) (hd : d ≤ d') : LawC p t d' ms r := fun n hn => h n (by lia)
noncomputable def LpC (p : Par) (t : AV) (d : Nat) (ms : List Int) (r : Option TP) : Prop := ∀ n, d ≤ n → ∀ log told g ex Q, Bg g → log.length + ms.length ≤ 1000 →
  Q ((r.map fun x => AV.tup [.str (if x.t then w_T else w_S), .int (x.b : Int), .int ((x.b + x.n : Nat) : Int)]).getD .none) (S p (log ++ ms) told g) → CC n (.top 1258) [t, .obj 1, .obj 6] (S p log told g) ex Q
theorem LpC.up {r : Option TP} (h : LpC p t d ms r) (hd : d ≤ d') : LpC p t d' ms r := fun n hn => h n (by lia)
theorem S_log (p : Par) (log told : List Int) (g : St) (m : Int) : (S p log told g).set 6 (.list (intL log ++ [.int m])) = S p (log ++ [m]) told g := by
  unfold S intL
  rw [List.map_append]; rfl
theorem c_lkept {n : Int} (h : Q (((kept n).map .int).getD .none) σ) : CC (k + 1) (.top 1251) [.int n] σ ex Q := by
  refine cn_top rfl ⟨rfl, 60, ?_⟩
  walk_at "s"
  · rw [kept, if_pos (by lia)] at h; exact .inl h
  · rw [kept, if_neg (by lia)] at h; exact .inl h
  · rw [kept, if_neg (by lia)] at h; exact .inl h
theorem lw_tell {kd m : Int} {v : AV} : LawC p (.tup [.str w_tell, .int kd, .int m, v]) 1 [m] (some v) := fun n hn log told g ex Q hg hl h => by
  obtain ⟨k, rfl, _⟩ := splitN (j := 1) (d := 0) hn
  refine cn_top rfl ⟨rfl, 60, ?_⟩
  walk_at "s"
  refine ⟨by simp [intL] at hl ⊢; lia, ?_⟩
  walk_at "s"
  rw [S_log]
  exact .inl h
theorem lw_cst {kd : Int} {v : AV} : LawC p (.tup [.str w_const, .int kd, v]) 1 [] (some v) := fun n hn log told g ex Q hg hl h => by
  obtain ⟨k, rfl, _⟩ := splitN (j := 1) (d := 0) hn
  rw [List.append_nil] at h
  refine cn_top rfl ⟨rfl, 60, ?_⟩
  walk_at "s"
  exact .inl h
theorem lw_nothing {kd : Int} : LawC p (.tup [.str w_nothing, .int kd]) 1 [] none := fun n hn log told g ex Q hg hl h => by
  obtain ⟨k, rfl, _⟩ := splitN (j := 1) (d := 0) hn
  rw [List.append_nil] at h
  refine cn_top rfl ⟨rfl, 60, ?_⟩
  walk_at "s"
  exact .inl h
/-- what a whole variable holds -/
noncomputable def heldAt (p : Par) (n : List Nat) : Option Int := if n = w_I then some p.I else if n = w_J then p.J else none
theorem sub_I : isSub w_I [73, 74] = true := by decide +kernel
theorem sub_J : isSub w_J [73, 74] = true := by decide +kernel
theorem sub_P : isSub w_P [73, 74] = false := by decide +kernel
theorem sub_Q : isSub w_Q [73, 74] = false := by decide +kernel
theorem lw_var {n : List Nat} (hn : n = w_I ∨ n = w_J ∨ n = w_P ∨ n = w_Q) : LawC p (.tup [.str w_var, .int 0, .str n]) 1 [] ((heldAt p n).map .int) := fun n' hn' log told g ex Q hg hl h => by
  obtain ⟨k, rfl, _⟩ := splitN (j := 1) (d := 0) hn'
  rw [List.append_nil] at h
  rcases hn with rfl | rfl | rfl | rfl
  · refine cn_top rfl ⟨rfl, 60, ?_⟩
    (walk_at "s") <;> (conv => whnf)
    rw [sub_I]
    walk_at "s"
    exact .inl h
  · refine cn_top rfl ⟨rfl, 60, ?_⟩
    (walk_at "s") <;> (conv => whnf)
    rw [sub_J]
    walk_at "s"
    have e : intO p.J = (Option.map AV.int p.J).getD .none := by cases p.J <;> rfl
    refine .inl ?_
    rw [e]
    exact h
  · refine cn_top rfl ⟨rfl, 60, ?_⟩
    (walk_at "s") <;> (conv => whnf)
    rw [sub_P]
    walk_at "s"
    exact .inl h
  · refine cn_top rfl ⟨rfl, 60, ?_⟩
    (walk_at "s") <;> (conv => whnf)
    rw [sub_Q]
    walk_at "s"
    exact .inl h
theorem lw_elemN {v : Int} (h : LawC p t d ms (some (.int v))) : LawC p (.tup [.str w_elem, .int 0, .str w_N, .lst [t]]) (d + 1) ms (((elN v).bind (numAt p)).map .int) := fun n' hn' log told g ex Q hg hl hq => by
  obtain ⟨k, rfl, hk⟩ := splitN (j := 1) hn'
  refine cn_top rfl ⟨rfl, 60, ?_⟩
  walk_at "s"
  refine h _ hk _ _ _ _ _ hg hl ?_
  walk_at "s"
  · rename_i h1 h2
    have hv : v = 1 ∨ v = 2 ∨ v = 3 := by lia
    rcases hv with rfl | rfl | rfl
    all_goals (walk_at "s"; exact .inl hq)
  · rw [elN, if_neg (by lia)] at hq; exact .inl hq
  · rw [elN, if_neg (by lia)] at hq; exact .inl hq
/-! ### texts -/
theorem lp_S : LpC p (.tup [.str w_var, .int 5, .str w_S]) 1 [] (some ⟨false, 0, 3⟩) := fun n' hn' log told g ex Q hg hl hq => by
  obtain ⟨k, rfl, hk⟩ := splitN (j := 1) (d := 0) hn'
  rw [List.append_nil] at hq
  refine cn_top rfl ⟨rfl, 60, ?_⟩
  walk_at "s"
  exact .inl hq
theorem lp_elemT {v : Int} (h : LawC p t d ms (some (.int v))) : LpC p (.tup [.str w_elem, .int 5, .str w_T, .lst [t]]) (d + 1) ms (elT v) := fun n' hn' log told g ex Q hg hl hq => by
  obtain ⟨k, rfl, hk⟩ := splitN (j := 1) hn'
  refine cn_top rfl ⟨rfl, 60, ?_⟩
  walk_at "s"
  refine h _ hk _ _ _ _ _ hg hl ?_
  walk_at "s"
  · have hv : v = 1 ∨ v = 2 := by lia
    rcases hv with rfl | rfl
    all_goals (exact .inl hq)
  · rw [elT, if_neg (by lia)] at hq; exact .inl hq
  · rw [elT, if_neg (by lia)] at hq; exact .inl hq
/-- an end -/
noncomputable def EndL (p : Par) (t : AV) (d : Nat) (ms : List Int) (v : Option Int) : Prop := (t = .none ∧ ms = [] ∧ v = none) ∨ ∃ l i, t = .tup l ∧ LawC p t d ms (some (.int i)) ∧ v = some i
noncomputable def partA (x : TP) : AV := .tup [.str (if x.t then w_T else w_S), .int (x.b : Int), .int ((x.b + x.n : Nat) : Int)]
theorem subL_fin {x : TP} {l m : Int} {lo hi : Option Int} (h : Q (((subO x lo hi).map partA).getD .none) σ) (hl : lo.getD 1 = l) (hm : hi.getD (x.n : Int) = m) (h1 : 1 ≤ l) (h2 : l ≤ m) (h3 : m ≤ ((x.b + x.n : Nat) : Int) - x.b) :
    Q (.tup [.str (if x.t then w_T else w_S), .int ((x.b : Int) + l - 1), .int ((x.b : Int) + m)]) σ := by
  unfold subO at h
  rw [hl, hm, if_pos ⟨by lia, by lia, by lia⟩] at h
  rw [show ((x.b : Int) + l - 1) = ((x.b + (l.toNat - 1) : Nat) : Int) by lia, show (x.b : Int) + m = (((x.b + (l.toNat - 1)) + (m - l + 1).toNat : Nat) : Int) by lia]
  exact h
theorem subL_no {x : TP} {l m : Int} {lo hi : Option Int} (h : Q (((subO x lo hi).map partA).getD .none) σ) (hl : lo.getD 1 = l) (hm : hi.getD (x.n : Int) = m) (h1 : ¬ (1 ≤ l ∧ l ≤ m ∧ m ≤ ((x.b + x.n : Nat) : Int) - x.b)) : Q .none σ := by
  unfold subO at h
  rw [hl, hm, if_neg (by lia)] at h
  exact h
theorem lp_sub {x : TP} {lo hi : AV} {vl vh : Option Int} (h : LpC p t d [] (some x)) (h1 : EndL p lo d ms1 vl) (h2 : EndL p hi d ms2 vh) : LpC p (.tup [.str w_substr, .int 5, t, lo, hi]) (d + 1) (ms1 ++ ms2) (subO x vl vh) := fun n' hn' log told g ex Q hg hl hq => by
  obtain ⟨k, rfl, hk⟩ := splitN (j := 1) hn'
  rw [List.length_append] at hl
  have hsz : (((x.b + x.n : Nat) : Int) - x.b) = x.n := by lia
  replace hq : Q (((subO x vl vh).map partA).getD .none) (S p (log ++ (ms1 ++ ms2)) told g) := hq
  refine cn_top rfl ⟨rfl, 60, ?_⟩
  walk_at "s"
  refine h _ hk _ _ _ _ _ hg (by simp; lia) ?_
  rw [List.append_nil]
  rcases h1 with ⟨rfl, rfl, rfl⟩ | ⟨l1, i1, rfl, h1, rfl⟩
  · rcases h2 with ⟨rfl, rfl, rfl⟩ | ⟨l2, i2, rfl, h2, rfl⟩
    · rw [List.append_nil, List.append_nil] at hq
      walk_at "s"
      all_goals first
        | exact .inl (subL_fin hq rfl hsz.symm (by lia) (by lia) (by lia))
        | exact .inl (subL_no hq rfl hsz.symm (by lia))
    · rw [List.nil_append] at hq
      walk_at "s"
      refine h2 _ hk _ _ _ _ _ hg (by lia) ?_
      walk_at "s"
      all_goals first
        | exact .inl (subL_fin hq rfl rfl (by lia) (by lia) (by lia))
        | exact .inl (subL_no hq rfl rfl (by first | lia | (simp only [Option.getD_some]; lia)))
  · rcases h2 with ⟨rfl, rfl, rfl⟩ | ⟨l2, i2, rfl, h2, rfl⟩
    · rw [List.append_nil] at hq
      walk_at "s"
      refine h1 _ hk _ _ _ _ _ hg (by lia) ?_
      walk_at "s"
      all_goals first
        | exact .inl (subL_fin hq rfl hsz.symm (by first | lia | (simp only [Option.getD_some]; lia)) (by first | lia | (simp only [Option.getD_some]; lia)) (by lia))
        | exact .inl (subL_no hq rfl hsz.symm (by first | lia | (simp only [Option.getD_some]; lia)))
    · rw [← List.append_assoc] at hq
      walk_at "s"
      refine h1 _ hk _ _ _ _ _ hg (by lia) ?_
      walk_at "s"
      refine h2 _ hk _ _ _ _ _ hg (by rw [List.length_append]; lia) ?_
      walk_at "s"
      all_goals first
        | exact .inl (subL_fin hq rfl rfl (by first | lia | (simp only [Option.getD_some]; lia)) (by first | lia | (simp only [Option.getD_some]; lia)) (by first | lia | (simp only [Option.getD_some]; lia)))
        | exact .inl (subL_no hq rfl rfl (by first | lia | (simp only [Option.getD_some]; lia)))
theorem slc_lst {σ : St} {l : List AV} {a b : Int} (h1 : 0 ≤ a ∧ a ≤ b ∧ b ≤ l.length ∧ l.length ≤ 1000000) : slcop (.lst l) (some (.int a)) (some (.int b)) σ = some (.lst (cutL l a.toNat b.toNat)) := by
  unfold slcop
  exact guardO_pos h1
theorem plain_str (s : List Nat) : Plain (.str s) := fun _ => rfl
theorem lw_text {w : List Nat} {l : List AV} {x : Option TP} (hw : plW w) (h : LpC p (.tup (.str w :: .int 5 :: l)) d ms x) (hx : ∀ i, x = some i → i.ok) : LawC p (.tup (.str w :: .int 5 :: l)) (d + 1) ms ((x.bind (TP.text p)).map .str) := fun n' hn' log told g ex Q hg hl hq => by
  obtain ⟨k, rfl, hk⟩ := splitN (j := 1) hn'
  rcases hw with rfl | rfl | rfl
  all_goals
    refine cn_top rfl ⟨rfl, 60, ?_⟩
    walk_at "s"
    refine h _ hk _ _ _ _ _ hg hl ?_
    cases x with
    | none =>
      walk_at "s"
      exact .inl hq
    | some x =>
      obtain ⟨xt, xb, xn⟩ := x
      have hok := hx _ rfl
      have hlen : (cutL (sideL p xt) xb (xb + xn)).length ≤ 7 := by unfold cutL; cases xt <;> simp [sideL] <;> lia
      have hok1 : xb + xn ≤ (if xt then 4 else 3) := hok.1
      have hsl : (sideL p xt).length = (if xt then 4 else 3) := by cases xt <;> rfl
      (walk_at "s") <;> (conv => whnf)
      rw [show subop (.obj 1) (.str (if xt = true then w_T else w_S)) (S p (log ++ ms) told g) = some (.lst ((sideL p xt).map sgn)) by cases xt <;> rfl]
      conv => whnf
      rw [slc_lst ⟨by dsimp only; lia, by dsimp only; lia, by rw [List.length_map, hsl]; dsimp only; lia, by rw [List.length_map, hsl]; split <;> lia⟩]
      rw [cut_map, Int.toNat_natCast, Int.toNat_natCast]
      conv => whnf
      rw [show cmpop .In .none (.lst ((cutL (sideL p xt) xb (xb + xn)).map sgn)) (S p (log ++ ms) told g) = _ from any_sgn _]
      conv => whnf
      have hq' : Q (((textOf (cutL (sideL p xt) xb (xb + xn))).map .str).getD .none) (S p (log ++ ms) told g) := hq
      cases ht : textOf (cutL (sideL p xt) xb (xb + xn)) with
      | none =>
        rw [ht] at hq'
        walk_at "s"
        exact .inl hq'
      | some s =>
        rw [ht] at hq'
        (walk_at "s") <;> (conv => whnf)
        rw [strs_sgn _ _ ht]
        conv => whnf
        rw [flat_one]
        refine ⟨?_, .inl hq'⟩
        rw [text_len ht]; lia
/-! ### what is made of values -/
theorem lw_neg {P : Int → Prop} (h : LawC p t d ms r) (hr : isI r P) (hd : 1 ≤ d) : LawC p (.tup [.str w_neg, .int 0, t]) (d + 1) ms (bindI r fun n => (kept (-n)).map .int) := fun n' hn' log told g ex Q hg hl hq => by
  obtain ⟨k, rfl, hk⟩ := splitN (j := 1) hn'
  obtain ⟨k, rfl⟩ : ∃ k', k = k' + 1 := ⟨k - 1, by lia⟩
  refine cn_top rfl ⟨rfl, 60, ?_⟩
  walk_at "s"
  refine h _ hk _ _ _ _ _ hg hl ?_
  rcases isI_cases hr with rfl | ⟨n, rfl, q⟩
  · walk_at "s"
    exact .inl hq
  · walk_at "s"
    refine c_lkept ?_
    rw [show (0 : Int) - n = -n by lia]
    exact .inl hq
theorem lw_not {b : Option Bool} (h : LawC p t d ms (b.map .bool)) : LawC p (.tup [.str w_not, .int 4, t]) (d + 1) ms (b.map fun b => .bool !b) := fun n' hn' log told g ex Q hg hl hq => by
  obtain ⟨k, rfl, hk⟩ := splitN (j := 1) hn'
  refine cn_top rfl ⟨rfl, 60, ?_⟩
  walk_at "s"
  refine h _ hk _ _ _ _ _ hg hl ?_
  cases b with
  | none => walk_at "s"; exact .inl hq
  | some b => walk_at "s"; exact .inl hq
theorem lw_cat {u : AV} {x y : Option (List Nat)} (h : LawC p t d ms (x.map .str)) (h' : LawC p u d ms' (y.map .str)) (hx : ∀ s, x = some s → s.length ≤ 500) (hy : ∀ s, y = some s → s.length ≤ 500) :
    LawC p (.tup [.str w_cat, .int 5, t, u]) (d + 1) (catM x ms ms') (catR x y) := fun n' hn' log told g ex Q hg hl hq => by
  obtain ⟨k, rfl, hk⟩ := splitN (j := 1) hn'
  refine cn_top rfl ⟨rfl, 60, ?_⟩
  walk_at "s"
  cases x with
  | none =>
    dsimp only [catM] at hl hq
    refine h _ hk _ _ _ _ _ hg hl ?_
    walk_at "s"
    exact .inl hq
  | some x =>
    dsimp only [catM] at hl hq
    rw [List.length_append] at hl
    refine h _ hk _ _ _ _ _ hg (by lia) ?_
    walk_at "s"
    refine h' _ hk _ _ _ _ _ hg (by rw [List.length_append]; lia) ?_
    rw [List.append_assoc]
    cases y with
    | none => walk_at "s"; exact .inl hq
    | some y =>
      have := hx _ rfl
      have := hy _ rfl
      walk_at "s"
      exact .inl hq
theorem lw_conv_truth {t : List AV} {w : List Nat} (h : LawC p (.tup (.str w :: .int 4 :: t)) d ms r) (hr : r ≠ some .none) (hb : ∀ v, r = some v → ∃ b, v = .bool b) : LawC p (.tup [.str w_conv, .int 0, .tup (.str w :: .int 4 :: t)]) (d + 1) ms none := fun n' hn' log told g ex Q hg hl hq => by
  obtain ⟨k, rfl, hk⟩ := splitN (j := 1) hn'
  refine cn_top rfl ⟨rfl, 60, ?_⟩
  walk_at "s"
  refine h _ hk _ _ _ _ _ hg hl ?_
  cases r with
  | none => walk_at "s"; exact .inl hq
  | some b =>
    obtain ⟨b, rfl⟩ := hb _ rfl
    walk_at "s"
    exact .inl hq
theorem cutL_law (m e : Int) (h1 : -1 ≤ e) (h2 : e ≤ 2) : cutR m e = if 0 ≤ e then m * 10 ^ e.toNat else if 0 ≤ m then m.fdiv 10 else 0 - (0 - m).fdiv 10 := by
  unfold cutR
  by_cases h : 0 ≤ e
  · rw [if_pos h, if_pos h]
  · rw [if_neg h, if_neg h]
    obtain rfl : e = -1 := by lia
    rw [show (10 : Int) ^ (- (-1 : Int)).toNat = 10 from rfl, fd10, fd10]
    split <;> split <;> lia
theorem lw_conv_cst {m e : Int} (hm : m.natAbs ≤ 999) (h1 : -1 ≤ e) (h2 : e ≤ 2) : LawC p (.tup [.str w_conv, .int 0, .tup [.str w_const, .int 1, .tup [.int m, .int e]]]) 2 [] ((kept (cutR m e)).map .int) := fun n' hn' log told g ex Q hg hl hq => by
  obtain ⟨k, rfl, hk⟩ := splitN (j := 2) (d := 0) hn'
  rw [cutL_law m e h1 h2] at hq
  refine cn_top rfl ⟨rfl, 60, ?_⟩
  walk_at "s"
  refine lw_cst _ (by lia) _ _ _ _ _ hg hl ?_
  rw [List.append_nil] at hq ⊢
  walk_at "s"
  · refine c_lkept ?_
    rename_i q
    rw [if_pos q] at hq
    exact .inl hq
  · refine c_lkept ?_
    rename_i q q2
    rw [if_neg q, if_pos q2] at hq
    exact .inl hq
  · refine c_lkept ?_
    rename_i q q2
    rw [if_neg q, if_neg q2] at hq
    exact .inl hq
theorem lw_conv_whole {t : List AV} {w : List Nat} (h : LawC p (.tup (.str w :: .int 0 :: t)) d ms r) (hr : isI r fun n => n.natAbs ≤ 999) (hd : 1 ≤ d) :
    LawC p (.tup [.str w_conv, .int 0, .tup [.str w_conv, .int 1, .tup (.str w :: .int 0 :: t)]]) (d + 2) ms (bindI r fun n => (kept n).map .int) := fun n' hn' log told g ex Q hg hl hq => by
  obtain ⟨k, rfl, hk⟩ := splitN (j := 2) hn'
  refine cn_top rfl ⟨rfl, 60, ?_⟩
  walk_at "s"
  refine cn_top rfl ⟨rfl, 60, ?_⟩
  walk_at "s"
  refine h _ hk _ _ _ _ _ hg hl ?_
  rcases isI_cases hr with rfl | ⟨n, rfl, q⟩
  · walk_at "s"
    refine .inl ?_
    walk_at "s"
    exact .inl hq
  · walk_at "s"
    refine .inl ?_
    walk_at "s"
    refine c_lkept ?_
    rw [show n * 10 ^ (0 : Int).toNat = n by simp]
    exact .inl hq
end
end
section
open PySem PySem.W PyProof.Rows PySem.Calls
section
variable {p : Par} {log told : List Int} {g : St} {k : Nat} {σ : St} {ex : St → Prop} {Q : KE} {d d' d1 d2 : Nat} {ms ms' ms1 ms2 : List Int} {r : Option AV} {t : AV}
theorem v_at (o : AO) : (S p log told (g ++ [o]))[24 + g.length]? = some o := by
  rw [Nat.add_comm]
  show (g ++ [o])[g.length]? = some o
  simp
theorem v_set (o o' : AO) : (S p log told (g ++ [o])).set (24 + g.length) o' = S p log told (g ++ [o']) := by
  rw [Nat.add_comm]
  unfold S
  simp only [List.set_cons_succ]
  congr 24
  simp
theorem lw_len {w : List Nat} {l : List AV} {x : Option TP} {kd : Int} (hw : plW w) (h : LpC p (.tup (.str w :: l)) d ms x) :
    LawC p (.tup [.str w_intr, .int kd, .str w_LEN, .lst [.tup (.str w :: l)]]) (d + 2) ms (x.map fun x => .int x.n) := fun n' hn' log told g ex Q hg hl hq => by
  obtain ⟨k, rfl, hk⟩ := splitN (j := 2) hn'
  refine cn_top rfl ⟨rfl, 60, ?_⟩
  walk_at "s"
  rcases hw with rfl | rfl | rfl
  all_goals
    refine cn_top rfl ⟨rfl, 60, ?_⟩
    walk_at "s"
    refine h _ hk _ _ _ _ _ hg hl ?_
    cases x with
    | none => walk_at "s"; exact .inl (.inl hq)
    | some x =>
      (walk_at "s") <;> (conv => whnf)
      rw [show (((x.b + x.n : Nat) : Int) - x.b) = x.n by lia]
      exact .inl (.inl hq)
noncomputable abbrev w_values : List Nat := [118, 97, 108, 117, 101, 115]
noncomputable abbrev w_part : List Nat := [112, 97, 114, 116]
noncomputable abbrev w_parts : List Nat := [112, 97, 114, 116, 115]
noncomputable abbrev w_held : List Nat := [104, 101, 108, 100]
noncomputable abbrev w_log : List Nat := [108, 111, 103]
noncomputable abbrev rho1 (name : List Nat) (kd : Int) (ts : List AV) : Loc := (w_name, .str name) :: (w_parts, .lst ts) :: p_1272.zip [.tup [.str w_intr, .int kd, .str name, .lst ts], .obj 1, .obj 6]
noncomputable abbrev rho0 (name : List Nat) (kd : Int) (ts : List AV) (m : Nat) : Loc := (w_values, .obj m) :: rho1 name kd ts
theorem law_pre {name : List Nat} {kd : Int} {ts : List AV} (hlen : name = w_LEN → ∃ w l, ts = [.tup (.str w :: l)] ∧ noPl w)
    (h : evSs (CC k) (DoneX (S p log told g) ex) (Done (S p log told g) Q) 58 (b_1272.drop 2) (rho1 name kd ts) (S p log told g) fun _ σ' => Done (S p log told g) Q .none σ') :
    CC (k + 1) (.top 1272) [.tup [.str w_intr, .int kd, .str name, .lst ts], .obj 1, .obj 6] (S p log told g) ex Q := by
  refine cn_top rfl ⟨rfl, 60, ?_⟩
  conv => whnf
  refine ⟨by simp, ?_⟩
  conv => whnf
  refine sel_of (fun hc => ?_) (fun hc => ?_)
  · conv => whnf
    obtain ⟨w, l, hts, hw⟩ := hlen (of_decide_eq_true hc)
    rw [show subop (.lst ts) (.int 0) (S p log told g) = some (.tup (.str w :: l)) by rw [hts]; rfl]
    conv => whnf
    rcases hw with rfl | rfl | rfl
    all_goals
      refine ⟨by simp, ?_⟩
      exact h
  · exact h
theorem methop_app {j : Nat} {l : List AV} {v : AV} {σ : St} {Q : KE} (e : (σ[j]?).bind asList = some l) (h : l.length ≤ 1000000 ∧ Q .none (σ.set j (.list (l ++ [v])))) : methop .append (.obj j) [v] σ Q := by
  show osB (fun l : List AV => l.length ≤ 1000000 ∧ Q .none (σ.set j (.list (l ++ [v])))) ((σ[j]?).bind asList)
  exact osB_i e h
theorem seqL_nil {α : Type} (f : α → St → KE → Prop) (σ : St) (K) : seqL f [] σ K = K [] σ := rfl
noncomputable def bodyL : List XS := [.expr (.meth (.name w_values) .append [.call (.const (.con 1265)) [.name w_part, .name w_held, .name w_log]]), .ite (.cmp (.sub (.name w_values) (.un .USub (.const (.int 1)))) [.Is] [.const .none]) [.ret (.const .none)] []]
theorem idx_last (l : List AV) (v : AV) : idx (l ++ [v]) (-1) = some v := by
  unfold idx
  rw [if_neg (by decide), if_pos (by simp; lia)]
  have : ((-1 : Int) + ((l ++ [v]).length : Nat)).toNat = l.length := by simp; lia
  rw [this]; simp
theorem law_turn {n m : Nat} {R : KE} {ρ : Loc} {K : Loc → St → Prop} {l : List AV} (hd : d ≤ m) (h1 : look w_values ρ = some (.obj (24 + g.length))) (h2 : look w_part ρ = some t) (h3 : look w_held ρ = some (.obj 1)) (h4 : look w_log ρ = some (.obj 6))
    (hl : log.length + ms.length ≤ 1000) (hll : l.length ≤ 100) (hB : Bg (g ++ [.list l])) (ht : LawC p t d ms r) (hr : ∀ v, r = some v → isNone v = false)
    (h : match r with | some v => K ρ (S p (log ++ ms) told (g ++ [.list (l ++ [v])])) | none => R .none (S p (log ++ ms) told (g ++ [.list (l ++ [.none])]))) :
    evSs (CC m) ex R (n + 8) bodyL ρ (S p log told (g ++ [.list l])) K := by
  have e0 : ∀ l' : List AV, ((S p log told (g ++ [.list l']))[24 + g.length]?).bind asList = some l' := fun l' => by rw [v_at]; rfl
  have e1 : ((S p (log ++ ms) told (g ++ [.list l]))[24 + g.length]?).bind asList = some l := by rw [v_at]; rfl
  have e2 : ∀ v : AV, subop (.obj (24 + g.length)) (.int (-1)) (S p (log ++ ms) told (g ++ [.list (l ++ [v])])) = some v := fun v => by
    show (((S p (log ++ ms) told (g ++ [.list (l ++ [v])]))[24 + g.length]?).bind asList).bind _ = _
    rw [v_at]
    exact idx_last l v
  refine osB_i (o := look w_values ρ) h1 ?_
  have p1 : osB (fun _ : List AV => True) (((S p log told (g ++ [.list l]))[24 + g.length]?).bind asList) := osB_i (e0 l) trivial
  refine ⟨p1, ?_⟩
  refine osB_i (o := look w_part ρ) h2 ?_
  refine osB_i (o := look w_held ρ) h3 ?_
  refine osB_i (o := look w_log ρ) h4 ?_
  refine ht _ hd _ _ _ _ _ hB hl ?_
  refine Eq.mpr (seqL_nil _ _ _) ?_
  refine methop_app e1 ?_
  refine ⟨by omega, rfl, ?_⟩
  rw [v_set]
  refine osB_i (o := look w_values ρ) h1 ?_
  refine osB_i (o := subop _ _ _) (e2 _) ?_
  cases r with
  | none => exact h
  | some v => exact sel_rf (hr v rfl) h
/-- a row of trees on the law's side -/
inductive AllL (p : Par) (d : Nat) : List AV → List Int → Option (List AV) → Prop
  | nil : AllL p d [] [] (some [])
  | no {t ts ms} : LawC p t d ms none → AllL p d (t :: ts) ms none
  | cons {t ts ms ms' v r} : LawC p t d ms (some v) → Plain v → isNone v = false → AllL p d ts ms' r → AllL p d (t :: ts) (ms ++ ms') (r.map (v :: ·))
theorem bndL_all {m : Nat} : ∀ {l : List AV}, (∀ v ∈ l, Plain v) → bndL m l = true
  | [], _ => rfl
  | v :: l, h => by show (bndA m v && bndL m l) = true; rw [h v (.head _) m, bndL_all fun u hu => h u (.tail _ hu)]; rfl
theorem Bg_snoc {l : List AV} (hg : Bg g) (hl : ∀ v ∈ l, Plain v) : Bg (g ++ [.list l]) := fun a ha m => by
  rcases List.mem_append.mp ha with h | h
  · exact hg a h m
  · rw [List.mem_singleton] at h; subst h; exact bndL_all hl
theorem law_loop {n m : Nat} {R : KE} {N : Loc → St → Prop} (hd : d ≤ m) (hg : Bg g) : ∀ {ts : List AV} {ms : List Int} {vs : Option (List AV)} {log : List Int} {ρ : Loc} {l : List AV}, AllL p d ts ms vs → log.length + ms.length ≤ 1000 → l.length + ts.length ≤ 100 → (∀ v ∈ l, Plain v) →
    look w_values ρ = some (.obj (24 + g.length)) → look w_held ρ = some (.obj 1) → look w_log ρ = some (.obj 6) →
    (match vs with | some vs => N ((ts.map fun t => (w_part, t)).reverse ++ ρ) (S p (log ++ ms) told (g ++ [.list (l ++ vs)])) | none => ∀ l', R .none (S p (log ++ ms) told (g ++ [.list l']))) →
    loopL (fun v ρ₁ σ₁ K => evSs (CC m) ex R (n + 8) bodyL ((w_part, v) :: ρ₁) σ₁ K) ts ρ (S p log told (g ++ [.list l])) N
  | _, _, _, log, ρ, l, .nil, hl, hll, hp, h1, h3, h4, h => by
    dsimp only at h
    rw [List.append_nil, List.append_nil] at h
    exact h
  | _, _, _, log, ρ, l, .no (t := t) ht, hl, hll, hp, h1, h3, h4, h => by
    rw [loopL_cons]
    rw [List.length_cons] at hll
    exact law_turn (ρ := (w_part, t) :: ρ) hd h1 rfl h3 h4 hl (by omega) (Bg_snoc hg hp) ht (fun v e => by cases e) (h _)
  | _, _, _, log, ρ, l, .cons (t := t) (ts := ts) (ms := ms) (ms' := ms') (v := v) (r := r) ht hv hvn hr, hl, hll, hp, h1, h3, h4, h => by
    rw [loopL_cons]
    rw [List.length_cons] at hll
    rw [List.length_append] at hl
    refine law_turn (ρ := (w_part, t) :: ρ) hd h1 rfl h3 h4 (by omega) (by omega) (Bg_snoc hg hp) ht (fun u e => by cases e; exact hvn) ?_
    refine law_loop hd hg hr (by rw [List.length_append]; omega) (by rw [List.length_append]; exact Nat.le_trans (Nat.le_of_eq (Nat.add_right_comm _ _ _)) hll) (fun u hu => ?_) h1 h3 h4 ?_
    · rcases List.mem_append.mp hu with hu | hu
      · exact hp u hu
      · rw [List.mem_singleton] at hu; subst hu; exact hv
    · cases r with
      | none => intro l'; rw [List.append_assoc]; exact h l'
      | some vs =>
        have h' : N (((t :: ts).map fun t => (w_part, t)).reverse ++ ρ) (S p (log ++ (ms ++ ms')) told (g ++ [.list (l ++ (v :: vs))])) := h
        rw [List.map_cons, List.reverse_cons, List.append_assoc] at h'
        dsimp only
        rw [List.append_assoc, List.append_assoc]
        exact h'
theorem e_new {C : Ctr} {ex : St → Prop} {R : KE} {n : Nat} {x : List Nat} {rest : List XS} {ρ : Loc} {σ : St} {N : Loc → St → Prop} (h : evSs C ex R (n + 2) rest ((x, .obj σ.length) :: ρ) (σ ++ [.list []]) N) : evSs C ex R (n + 3) (.asg (.name x) (.lst []) :: rest) ρ σ N := h
theorem e_loop {C : Ctr} {ex : St → Prop} {R : KE} {n : Nat} {x y : List Nat} {b rest : List XS} {ρ : Loc} {σ : St} {N : Loc → St → Prop} {ts : List AV} (hy : look y ρ = some (.lst ts)) (hl : ts.length ≤ 100000)
    (h : loopL (fun v ρ₁ σ₁ K => evSs C ex R (n + 1) b ((x, v) :: ρ₁) σ₁ K) ts ρ σ fun ρ' σ' => evSs C ex R (n + 2) rest ρ' σ' N) : evSs C ex R (n + 3) (.loop x (.name y) b :: rest) ρ σ N := by
  refine Or.inl ?_
  show osB (fun v => lstB (fun l => l.length ≤ 100000 ∧ loopL (fun v ρ₁ σ₁ K => evSs C ex R (n + 1) b ((x, v) :: ρ₁) σ₁ K) l ρ σ fun ρ' σ' => evSs C ex R (n + 2) rest ρ' σ' N) v) (look y ρ)
  rw [hy]
  exact ⟨hl, h⟩
/-- what the rest of the function makes of the values -/
noncomputable def RestC (p : Par) (name : List Nat) (ts l : List AV) (r : Option AV) : Prop := ∀ k kd log log' told g ex Q, Bg g → Q (r.getD .none) (S p log told g) →
  evSs (CC (k + 1)) (DoneX (S p log' told g) ex) (Done (S p log' told g) Q) 56 (b_1272.drop 4) ((ts.map fun t => (w_part, t)).reverse ++ rho0 name kd ts (24 + g.length)) (S p log told (g ++ [.list l])) fun _ σ' => Done (S p log' told g) Q .none σ'
theorem lw_intr {name : List Nat} {kd : Int} {ts : List AV} {vs : Option (List AV)} (h : AllL p d ts ms vs) (hlen : ts.length ≤ 3) (hname : name = w_LEN → ∃ w l, ts = [.tup (.str w :: l)] ∧ noPl w) (hd : 1 ≤ d)
    (hr0 : vs = none → r = none) (hr1 : ∀ l, vs = some l → RestC p name ts l r) : LawC p (.tup [.str w_intr, .int kd, .str name, .lst ts]) (d + 2) ms r := fun n' hn' log told g ex Q hg hl hq => by
  obtain ⟨k, rfl, hk⟩ := splitN (j := 2) hn'
  obtain ⟨k, rfl⟩ : ∃ k', k = k' + 1 := ⟨k - 1, by lia⟩
  refine cn_top rfl ⟨rfl, 60, ?_⟩
  walk_at "s"
  refine law_pre hname ?_
  have e : b_1272.drop 2 = .asg (.name w_values) (.lst []) :: .loop w_part (.name w_parts) bodyL :: b_1272.drop 4 := rfl
  rw [e]
  refine e_new ?_
  rw [S_len]
  refine e_loop rfl (by lia) ?_
  refine law_loop (l := []) (by lia) hg h hl (by simp; lia) (fun v hv => by cases hv) rfl rfl rfl ?_
  cases vs with
  | none =>
    rw [hr0 rfl] at hq
    exact fun l' => done_S hg (fun m _ => rfl) (Or.inl hq)
  | some l => exact hr1 l rfl _ _ _ _ _ _ _ _ hg (.inl hq)
end
end
section
open PySem PySem.W PyProof.Rows PySem.Calls
section
variable {p : Par} {log log' told : List Int} {g : St} {k : Nat} {σ : St} {ex : St → Prop} {Q : KE} {r : Option AV} {t : AV}
theorem sub_v {l : List AV} {i : Int} {v : AV} (h : idx l i = some v) : subop (.obj (24 + g.length)) (.int i) (S p log told (g ++ [.list l])) = some v := by
  show (((S p log told (g ++ [.list l]))[24 + g.length]?).bind asList).bind _ = _
  rw [v_at]
  exact h
theorem plain_int (n : Int) : Plain (.int n) := fun _ => rfl
theorem plain_bool (b : Bool) : Plain (.bool b) := fun _ => rfl
theorem plain_i (r : Option Int) : Plain ((r.map .int).getD .none) := by cases r <;> exact fun _ => rfl
theorem plain_s (r : Option (List Nat)) : Plain ((r.map .str).getD .none) := by cases r <;> exact fun _ => rfl
/-- the end of the law's function -/
theorem fin_v {l : List AV} {v : AV} (hg : Bg g) (hv : Plain v) (h : Q v (S p log told g)) : Done (S p log' told g) Q v (S p log told (g ++ [.list l])) := done_S hg (fun m _ => hv m) h
theorem rem_law (x y : Int) : (x.natAbs : Int).fmod y.natAbs * (if x < 0 then -1 else 1) = x - quo x y * y := by
  have hb : (0 : Int) ≤ y.natAbs := Int.natCast_nonneg _
  unfold quo
  rw [Int.fmod_eq_emod_of_nonneg _ hb, Int.fdiv_eq_ediv_of_nonneg _ hb]
  have h := Int.mul_ediv_add_emod (x.natAbs : Int) y.natAbs
  generalize hq : (x.natAbs : Int) / y.natAbs = q at *
  generalize hm : (x.natAbs : Int) % y.natAbs = m at *
  generalize hz : (y.natAbs : Int) * q = z at *
  have f1 : 0 ≤ y → q * y = z := fun h0 => by rw [show y = y.natAbs by lia, Int.mul_comm]; simpa using hz
  have f2 : y < 0 → q * y = -z := fun h0 => by rw [show y = -(y.natAbs : Int) by lia, Int.mul_neg, Int.mul_comm]; simp; exact hz
  have f3 : -q * y = -(q * y) := Int.neg_mul _ _
  split <;> split
  · have : y < 0 := by lia
    rw [f2 this]; lia
  · have : 0 ≤ y := by lia
    rw [f3, f1 this]; lia
  · have : 0 ≤ y := by lia
    rw [f1 this]; lia
  · have : y < 0 := by lia
    rw [f3, f2 this]; lia
theorem maxI_one (x y : Int) : maxI x [y] = max x y := by show (if y > x then y else x) = _; split <;> lia
theorem minI_one (x y : Int) : minI x [y] = min x y := by show (if y < x then y else x) = _; split <;> lia
theorem ext_list {f : Int → List Int → Int} {f' : Int → Int → Int} {i : Nat} {l : List AV} {a : Int} {r : List Int} (e : (σ[i]?).bind asList = some l) (h : isInts l = some (a :: r)) (hr : r.length ≤ 1000) (hq : Q (.int (f a r)) σ) : extB f f' σ Q [.obj i] := by
  show osB (fun l => extL f σ Q (isInts l)) ((σ[i]?).bind asList)
  refine osB_i e ?_
  rw [h]
  exact ⟨hr, hq⟩
theorem max_v {l : List AV} {a : Int} {r : List Int} (h : isInts l = some (a :: r)) (hr : r.length ≤ 1000) (hq : Q (.int (maxI a r)) (S p log told (g ++ [.list l]))) : bicall .max [.obj (24 + g.length)] (S p log told (g ++ [.list l])) Q := by
  exact ext_list (f := maxI) (f' := max) (by rw [v_at]; rfl) h hr hq
theorem min_v {l : List AV} {a : Int} {r : List Int} (h : isInts l = some (a :: r)) (hr : r.length ≤ 1000) (hq : Q (.int (minI a r)) (S p log told (g ++ [.list l]))) : bicall .min [.obj (24 + g.length)] (S p log told (g ++ [.list l])) Q := by
  exact ext_list (f := minI) (f' := min) (by rw [v_at]; rfl) h hr hq
theorem pad_law (x y : List Nat) : x ++ rep [32] ((y.length : Int) - x.length) = padTo x y := by
  unfold padTo rep
  rw [show (max (x.length : Int) y.length - x.length).toNat = ((y.length : Int) - x.length).toNat by lia]
theorem lt_self (x : List Nat) : strLt x x = false := decide_eq_false (List.lt_irrefl x)
theorem ord_lge (x y : List Nat) : decide (0 ≤ ordI x y) = !strLt x y := by
  unfold ordI
  split
  · rename_i e; subst e; rw [lt_self]; rfl
  · split
    · rename_i h; rw [h]; rfl
    · rename_i h; rw [Bool.not_eq_true] at h; rw [h]; rfl
theorem ord_llt (x y : List Nat) : decide (ordI x y < 0) = strLt x y := by
  unfold ordI
  split
  · rename_i e; subst e; rw [lt_self]; rfl
  · split
    · rename_i h; rw [h]; rfl
    · rename_i h; rw [Bool.not_eq_true] at h; rw [h]; rfl
theorem lt_other {x y : List Nat} (h : ¬ x = y) : strLt y x = !strLt x y := by
  unfold strLt
  by_cases h1 : x < y
  · rw [decide_eq_true h1, decide_eq_false (List.lt_asymm h1)]; rfl
  · by_cases h2 : y < x
    · rw [decide_eq_true h2, decide_eq_false h1]; rfl
    · exact absurd (List.le_antisymm h2 h1) h
theorem ord_lgt (x y : List Nat) : decide (0 < ordI x y) = strLt y x := by
  unfold ordI
  split
  · rename_i e; subst e; rw [lt_self]; rfl
  · rename_i e
    rw [lt_other e]
    split
    · rename_i h; rw [h]; rfl
    · rename_i h; rw [Bool.not_eq_true] at h; rw [h]; rfl
theorem ord_lle (x y : List Nat) : decide (ordI x y ≤ 0) = !strLt y x := by
  unfold ordI
  split
  · rename_i e; subst e; rw [lt_self]; rfl
  · rename_i e
    rw [lt_other e]
    split
    · rename_i h; rw [h]; rfl
    · rename_i h; rw [Bool.not_eq_true] at h; rw [h]; rfl
theorem sub_d {σ : St} {es : List (List Nat × AV)} {n : List Nat} : subop (.obj σ.length) (.str n) (σ ++ [.dict es]) = look n es := by
  have e : (σ ++ [AO.dict es])[σ.length]? = some (.dict es) := by simp
  show rowsV _ _ = _
  rw [e]
  rfl
theorem fin_d {l : List AV} {v : AV} {o : AO} (hg : Bg g) (hv : Plain v) (h : Q v (S p log told g)) : Done (S p log' told g) Q v (S p log told (g ++ [.list l]) ++ [o]) := by
  rw [show S p log told (g ++ [.list l]) ++ [o] = S p log told (g ++ [.list l, o]) by unfold S; simp]
  exact done_S hg (fun m _ => hv m) h
theorem rest_abs {x : Int} {a : AV} : RestC p w_ABS [a] [.int x] ((kept x.natAbs).map .int) := fun k kd log log' told g ex Q hg hq => by
  conv => whnf
  rw [sub_v (v := (.int x)) rfl]
  conv => whnf
  rw [sub_v (v := (.int x)) rfl]
  walk_at "s"
  exact c_lkept (fin_v hg (plain_i _) hq)
theorem rest_int {x : Int} {a : AV} : RestC p w_INT [a] [.int x] (some (.int x)) := fun k kd log log' told g ex Q hg hq => by
  conv => whnf
  rw [sub_v (v := (.int x)) rfl]
  conv => whnf
  rw [sub_v (v := (.int x)) rfl]
  walk_at "s"
  exact fin_v hg (plain_int _) hq
theorem rest_odd {x : Int} {a : AV} : RestC p w_ODD [a] [.int x] (none) := fun k kd log log' told g ex Q hg hq => by
  conv => whnf
  rw [sub_v (v := (.int x)) rfl]
  conv => whnf
  rw [sub_v (v := (.int x)) rfl]
  walk_at "s"
  exact fin_v hg (fun _ => rfl) hq
theorem rest_char {x : Int} {a : AV} : RestC p w_CHAR [a] [.int x] ((signOf x).map .str) := fun k kd log log' told g ex Q hg hq => by
  conv => whnf
  rw [sub_v (v := (.int x)) rfl]
  conv => whnf
  rw [sub_v (v := (.int x)) rfl]
  walk_at "s"
  · rw [signOf, if_pos (by lia)] at hq; exact fin_v hg (plain_str _) hq
  · rw [signOf, if_neg (by lia)] at hq; exact fin_v hg (fun _ => rfl) hq
  · rw [signOf, if_neg (by lia)] at hq; exact fin_v hg (fun _ => rfl) hq
theorem rest_ichar {s : List Nat} (hs : s.length ≤ 500) {a : AV} : RestC p w_ICHAR [a] [.str s] ((codeO s).map .int) := fun k kd log log' told g ex Q hg hq => by
  conv => whnf
  rw [sub_v (v := (.str s)) rfl]
  conv => whnf
  rw [sub_v (v := (.str s)) rfl]
  walk_at "s"
  · rename_i q
    rcases s with _ | ⟨c, _ | ⟨d, r⟩⟩
    · exact absurd q (by decide)
    · conv => whnf
      exact fin_v hg (plain_int _) hq
    · exact absurd q (by simp; lia)
  · rename_i q
    rcases s with _ | ⟨c, _ | ⟨d, r⟩⟩
    · exact fin_v hg (fun _ => rfl) hq
    · exact absurd rfl q
    · exact fin_v hg (fun _ => rfl) hq
theorem rest_len {s : List Nat} (hs : s.length ≤ 500) {a : AV} : RestC p w_LEN [a] [.str s] (some (.int s.length)) := fun k kd log log' told g ex Q hg hq => by
  conv => whnf
  rw [sub_v (v := (.str s)) rfl]
  conv => whnf
  rw [sub_v (v := (.str s)) rfl]
  walk_at "s"
  exact fin_v hg (plain_int _) hq
theorem rest_index {s u : List Nat} {a b : AV} : RestC p w_INDEX [a, b] [.str s, .str u] (some (.int (findI s u))) := fun k kd log log' told g ex Q hg hq => by
  conv => whnf
  rw [sub_v (v := (.str s)) rfl]
  conv => whnf
  rw [sub_v (v := (.str u)) rfl]
  walk_at "s"
  exact fin_v hg (plain_int _) hq
theorem rest_mod {x y : Int} {a b : AV} : RestC p w_MOD [a, b] [.int x, .int y] ((remO x y).map .int) := fun k kd log log' told g ex Q hg hq => by
  conv => whnf
  rw [sub_v (v := (.int x)) rfl]
  conv => whnf
  rw [sub_v (v := (.int y)) rfl]
  walk_at "s"
  · rename_i h0
    rw [remO, if_pos h0] at hq; exact fin_v hg (fun _ => rfl) hq
  · rename_i h0 h1
    have e := rem_law x y
    rw [if_pos h1] at e
    rw [e]
    rw [remO, if_neg h0] at hq; exact fin_v hg (plain_int _) hq
  · rename_i h0 h1
    have e := rem_law x y
    rw [if_neg h1] at e
    rw [e]
    rw [remO, if_neg h0] at hq; exact fin_v hg (plain_int _) hq
theorem rest_dim {x y : Int} {a b : AV} : RestC p w_DIM [a, b] [.int x, .int y] ((dimO x y).map .int) := fun k kd log log' told g ex Q hg hq => by
  conv => whnf
  rw [sub_v (v := (.int x)) rfl]
  conv => whnf
  rw [sub_v (v := (.int y)) rfl]
  walk_at "s"
  exact c_lkept (fin_v hg (plain_i _) hq)
theorem rest_sign {x y : Int} {a b : AV} : RestC p w_SIGN [a, b] [.int x, .int y] ((signO x y).map .int) := fun k kd log log' told g ex Q hg hq => by
  conv => whnf
  rw [sub_v (v := (.int x)) rfl]
  conv => whnf
  rw [sub_v (v := (.int y)) rfl]
  (walk_at "s") <;> (conv => whnf)
  · rw [signO, if_pos (by lia)] at hq; exact c_lkept (fin_v hg (plain_i _) hq)
  · rw [signO, if_neg (by lia)] at hq
    rw [show (0 : Int) - x.natAbs = -(x.natAbs : Int) by lia]
    exact c_lkept (fin_v hg (plain_i _) hq)
theorem rest_max2 {x y : Int} {a b : AV} : RestC p w_MAX [a, b] [.int x, .int y] (some (.int (max x y))) := fun k kd log log' told g ex Q hg hq => by
  conv => whnf
  rw [sub_v (v := (.int x)) rfl]
  conv => whnf
  rw [sub_v (v := (.int y)) rfl]
  walk_at "s"
  refine max_v (l := [.int x, .int y]) rfl (by simp) ?_
  rw [show maxI x [y] = max x y from maxI_one x y]
  exact fin_v hg (plain_int _) hq
theorem rest_max3 {x y z : Int} {a b c : AV} : RestC p w_MAX [a, b, c] [.int x, .int y, .int z] (some (.int (max (max x y) z))) := fun k kd log log' told g ex Q hg hq => by
  conv => whnf
  rw [sub_v (v := (.int x)) rfl]
  conv => whnf
  rw [sub_v (v := (.int z)) rfl]
  walk_at "s"
  refine max_v (l := [.int x, .int y, .int z]) rfl (by simp) ?_
  rw [show maxI x [y, z] = max (max x y) z by rw [← maxI_one x y]; exact maxI_one _ _]
  exact fin_v hg (plain_int _) hq
theorem rest_min2 {x y : Int} {a b : AV} : RestC p w_MIN [a, b] [.int x, .int y] (some (.int (min x y))) := fun k kd log log' told g ex Q hg hq => by
  conv => whnf
  rw [sub_v (v := (.int x)) rfl]
  conv => whnf
  rw [sub_v (v := (.int y)) rfl]
  walk_at "s"
  refine min_v (l := [.int x, .int y]) rfl (by simp) ?_
  rw [show minI x [y] = min x y from minI_one x y]
  exact fin_v hg (plain_int _) hq
theorem rest_min3 {x y z : Int} {a b c : AV} : RestC p w_MIN [a, b, c] [.int x, .int y, .int z] (some (.int (min (min x y) z))) := fun k kd log log' told g ex Q hg hq => by
  conv => whnf
  rw [sub_v (v := (.int x)) rfl]
  conv => whnf
  rw [sub_v (v := (.int z)) rfl]
  walk_at "s"
  refine min_v (l := [.int x, .int y, .int z]) rfl (by simp) ?_
  rw [show minI x [y, z] = min (min x y) z by rw [← minI_one x y]; exact minI_one _ _]
  exact fin_v hg (plain_int _) hq
theorem rest_lge {x y : List Nat} (hx : x.length ≤ 500) (hy : y.length ≤ 500) {a b : AV} : RestC p w_LGE [a, b] [.str x, .str y] (some (.bool (decide (0 ≤ ordI (padTo x y) (padTo y x))))) := fun k kd log log' told g ex Q hg hq => by
  conv => whnf
  rw [sub_v (v := (.str x)) rfl]
  conv => whnf
  rw [sub_v (v := (.str y)) rfl]
  walk_at "s"
  refine ⟨by rw [rep_len]; lia, ?_⟩
  walk_at "s"
  refine ⟨by rw [rep_len]; lia, ?_⟩
  (walk_at "s") <;> (conv => whnf)
  rw [sub_d]
  conv => whnf
  rw [pad_law x y, pad_law y x]
  refine fin_d hg (plain_bool _) ?_
  rw [ord_lge] at hq
  exact hq
theorem rest_lgt {x y : List Nat} (hx : x.length ≤ 500) (hy : y.length ≤ 500) {a b : AV} : RestC p w_LGT [a, b] [.str x, .str y] (some (.bool (decide (0 < ordI (padTo x y) (padTo y x))))) := fun k kd log log' told g ex Q hg hq => by
  conv => whnf
  rw [sub_v (v := (.str x)) rfl]
  conv => whnf
  rw [sub_v (v := (.str y)) rfl]
  walk_at "s"
  refine ⟨by rw [rep_len]; lia, ?_⟩
  walk_at "s"
  refine ⟨by rw [rep_len]; lia, ?_⟩
  (walk_at "s") <;> (conv => whnf)
  rw [sub_d]
  conv => whnf
  rw [pad_law x y, pad_law y x]
  refine fin_d hg (plain_bool _) ?_
  rw [ord_lgt] at hq
  exact hq
theorem rest_lle {x y : List Nat} (hx : x.length ≤ 500) (hy : y.length ≤ 500) {a b : AV} : RestC p w_LLE [a, b] [.str x, .str y] (some (.bool (decide (ordI (padTo x y) (padTo y x) ≤ 0)))) := fun k kd log log' told g ex Q hg hq => by
  conv => whnf
  rw [sub_v (v := (.str x)) rfl]
  conv => whnf
  rw [sub_v (v := (.str y)) rfl]
  walk_at "s"
  refine ⟨by rw [rep_len]; lia, ?_⟩
  walk_at "s"
  refine ⟨by rw [rep_len]; lia, ?_⟩
  (walk_at "s") <;> (conv => whnf)
  rw [sub_d]
  conv => whnf
  rw [pad_law x y, pad_law y x]
  refine fin_d hg (plain_bool _) ?_
  rw [ord_lle] at hq
  exact hq
theorem rest_llt {x y : List Nat} (hx : x.length ≤ 500) (hy : y.length ≤ 500) {a b : AV} : RestC p w_LLT [a, b] [.str x, .str y] (some (.bool (decide (ordI (padTo x y) (padTo y x) < 0)))) := fun k kd log log' told g ex Q hg hq => by
  conv => whnf
  rw [sub_v (v := (.str x)) rfl]
  conv => whnf
  rw [sub_v (v := (.str y)) rfl]
  walk_at "s"
  refine ⟨by rw [rep_len]; lia, ?_⟩
  walk_at "s"
  refine ⟨by rw [rep_len]; lia, ?_⟩
  (walk_at "s") <;> (conv => whnf)
  rw [sub_d]
  conv => whnf
  rw [pad_law x y, pad_law y x]
  refine fin_d hg (plain_bool _) ?_
  rw [ord_llt] at hq
  exact hq
end
end
section
open PySem PySem.W PyProof.Rows PySem.Calls

theorem occ_mem_le (s sub : Str) (hi limit : Nat) : ∀ (l : List Nat) (st : Array Nat × Nat), (∀ x ∈ st.fst.toList, x ≤ hi) → ∀ x ∈ (forIn l st (StrLaws.occBody s sub hi limit)).run.fst.toList, x ≤ hi
  | [], st, h => h
  | a :: l, st, h => by
    rw [List.forIn_cons]
    unfold StrLaws.occBody
    split
    · rename_i hc
      refine occ_mem_le s sub hi limit l _ fun x hx => ?_
      simp only [Array.toList_push, List.mem_append, List.mem_singleton] at hx
      rcases hx with hx | rfl
      · exact h x hx
      · have := hc.1.2; lia
    · exact occ_mem_le s sub hi limit l _ h
theorem find_bound (x y : List Nat) : 0 ≤ findI x y ∧ findI x y ≤ x.length + 1 := by
  unfold findI Txt.find
  split
  · rename_i i r h
    have hm : i ∈ Builtin.Str.occurrences ⟨x.toArray⟩ ⟨y.toArray⟩ 0 (Str.length ⟨x.toArray⟩) 1 := by rw [h]; exact .head _
    rw [StrLaws.occ_eq] at hm
    have := occ_mem_le _ _ _ _ _ _ (fun x hx => by simp at hx) i hm
    simp only [Str.length, List.size_toArray] at this
    lia
  · lia
section
variable {p : Par}
/-- the bounds of what is drawn -/
structure Pok (p : Par) : Prop where
  I : p.I.natAbs ≤ 999
  J : ∀ j, p.J = some j → j.natAbs ≤ 999
  N : p.N0.natAbs ≤ 999
  S : ∀ b, ∀ c, some c ∈ sideL p b → c ≤ 255
noncomputable def okI (v : AV) : Prop := ∃ i, v = .int i ∧ i.natAbs ≤ 999
noncomputable def okS (n : Nat) (v : AV) : Prop := ∃ s, v = .str s ∧ s.length ≤ 4 * 2 ^ n ∧ ∀ c ∈ s, c ≤ 255
noncomputable def okB (v : AV) : Prop := ∃ b, v = .bool b
noncomputable def okK (n : Nat) (k : Int) (v : AV) : Prop := if k = 0 then okI v else if k = 5 then okS n v else okB v
noncomputable abbrev DD (n : Nat) : Nat := 14 + 7 * n
noncomputable abbrev MM (n : Nat) : Nat := 2 * 3 ^ n
/-- both sides answer alike -/
inductive Both (p : Par) (n : Nat) (k : Int) (t : AV) : Prop
  | mk (ms : List Int) (r : Option AV) : EvC p t (DD n) ms r → LawC p t (DD n) ms r → ms.length ≤ MM n → (∀ v, r = some v → okK n k v) → Both p n k t
/-- a call of an intrinsic: by eval_intr itself -/
inductive BothI (p : Par) (n : Nat) (k : Int) (t : AV) : Prop
  | mk (ms : List Int) (r : Option AV) : IvC p t (DD n - 1) ms r → LawC p t (DD n) ms r → ms.length ≤ MM n → (∀ v, r = some v → okK n k v) → BothI p n k t
theorem MM_mono {a b : Nat} (h : a ≤ b) : MM a ≤ MM b := Nat.mul_le_mul_left _ (Nat.pow_le_pow_right (by decide) h)
theorem MM_pos (a : Nat) : 2 ≤ MM a := by have := MM_mono (Nat.zero_le a); simpa [MM] using this
theorem MM_succ (a : Nat) : MM (a + 1) = 3 * MM a := by unfold MM; rw [Nat.pow_succ]; lia
theorem okS_mono {a b : Nat} (h : a ≤ b) {v : AV} (hv : okS a v) : okS b v := by
  obtain ⟨s, rfl, h1, h2⟩ := hv
  exact ⟨s, rfl, Nat.le_trans h1 (Nat.mul_le_mul_left _ (Nat.pow_le_pow_right (by decide) h)), h2⟩
/-! ## the trees that the law draws -/
inductive PlT : AV → Prop
  | S : PlT (.tup [.str w_var, .int 5, .str w_S])
  | T {m v} : 0 ≤ v → v ≤ 4 → PlT (.tup [.str w_elem, .int 5, .str w_T, .lst [.tup [.str w_tell, .int 0, .int m, .int v]]])
  | sub {b lo hi} : (b = .tup [.str w_var, .int 5, .str w_S] ∨ b = .tup [.str w_elem, .int 5, .str w_T, .lst [.tup [.str w_const, .int 0, .int 1]]]) →
      (lo = .none ∨ ∃ m v, lo = .tup [.str w_tell, .int 0, .int m, .int v]) → (hi = .none ∨ ∃ m v, hi = .tup [.str w_tell, .int 0, .int m, .int v]) → PlT (.tup [.str w_substr, .int 5, b, lo, hi])
theorem elT_ok {v : Int} {x : TP} (h : elT v = some x) : x.ok := by
  unfold elT at h
  split at h
  · cases h
    refine ⟨?_, (by decide : 1 ≤ 2)⟩
    show 2 * (v.toNat - 1) + 2 ≤ 4
    lia
  · cases h
theorem subO_ok {x y : TP} {lo hi : Option Int} (hx : x.ok) (h : subO x lo hi = some y) : y.ok := by
  unfold subO at h
  split at h
  · rename_i hc
    cases h
    obtain ⟨h1, h2⟩ := hx
    refine ⟨?_, ?_⟩
    · show x.b + ((lo.getD 1).toNat - 1) + (hi.getD x.n - lo.getD 1 + 1).toNat ≤ (if x.t then 4 else 3)
      lia
    · show 1 ≤ (hi.getD x.n - lo.getD 1 + 1).toNat
      lia
  · cases h
theorem end_of {t : AV} (h : t = .none ∨ ∃ m v, t = .tup [.str w_tell, .int 0, .int m, .int v]) : ∃ ms o, EndC p t 4 ms o ∧ EndL p t 4 ms o ∧ ms.length ≤ 1 := by
  rcases h with rfl | ⟨m, v, rfl⟩
  · exact ⟨[], none, .inl ⟨rfl, rfl, rfl⟩, .inl ⟨rfl, rfl, rfl⟩, by decide⟩
  · exact ⟨[m], some v, .inr ⟨_, v, rfl, ev_tell.up (by decide), rfl⟩, .inr ⟨_, v, rfl, lw_tell.up (by decide), rfl⟩, by simp⟩
inductive PlB (p : Par) (t : AV) : Prop
  | mk (ms : List Int) (x : Option TP) : PlC p t 8 ms (x.map TP.av) → LpC p t 8 ms x → ms.length ≤ 2 → (∀ i, x = some i → i.ok) → (w : List Nat) → (l : List AV) → t = .tup (.str w :: .int 5 :: l) → plW w → PlB p t
theorem pl_both {t : AV} (h : PlT t) : PlB p t := by
  cases h with
  | S => exact ⟨[], some ⟨false, 0, 3⟩, pl_S.up (by decide), lp_S.up (by decide), by decide, fun i e => by cases e; exact ⟨by decide, by decide⟩, _, _, rfl, .inl rfl⟩
  | T h0 h1 => exact ⟨_, elT _, (pl_elemT ev_tell (by decide)).up (by decide), (lp_elemT lw_tell).up (by decide), by simp, fun i e => elT_ok e, _, _, rfl, .inr (.inl rfl)⟩
  | sub hb hl hh =>
    obtain ⟨m1, o1, a1, a2, a3⟩ := end_of (p := p) hl
    obtain ⟨m2, o2, b1, b2, b3⟩ := end_of (p := p) hh
    rcases hb with rfl | rfl
    · exact ⟨m1 ++ m2, subO ⟨false, 0, 3⟩ o1 o2, (pl_sub (pl_S.up (by decide)) a1 b1 (by decide)).up (by decide), (lp_sub (lp_S.up (by decide)) a2 b2).up (by decide), by rw [List.length_append]; lia,
        fun i e => subO_ok ⟨by decide, by decide⟩ e, _, _, rfl, .inr (.inr rfl)⟩
    · exact ⟨m1 ++ m2, subO ⟨true, 0, 2⟩ o1 o2, (pl_sub (x := ⟨true, 0, 2⟩) ((pl_elemT (v := 1) ev_cst (by decide)).up (by decide)) a1 b1 (by decide)).up (by decide), (lp_sub (x := ⟨true, 0, 2⟩) ((lp_elemT (v := 1) lw_cst).up (by decide)) a2 b2).up (by decide), by rw [List.length_append]; lia,
        fun i e => subO_ok ⟨by decide, by decide⟩ e, _, _, rfl, .inr (.inr rfl)⟩
inductive Tr : Nat → Int → AV → Prop
  | tell {n m i} : i.natAbs ≤ 200 → Tr n 0 (.tup [.str w_tell, .int 0, .int m, .int i])
  | var {n nm} : nm = w_I ∨ nm = w_J ∨ nm = w_P ∨ nm = w_Q → Tr n 0 (.tup [.str w_var, .int 0, .str nm])
  | elem {n m i} : Tr n 0 (.tup [.str w_elem, .int 0, .str w_N, .lst [.tup [.str w_tell, .int 0, .int m, .int i]]])
  | cst {n i} : i.natAbs ≤ 200 → Tr n 0 (.tup [.str w_const, .int 0, .int i])
  | nothing {n} : Tr n 0 (.tup [.str w_nothing, .int 0])
  | neg {n t} : Tr n 0 t → Tr (n + 1) 0 (.tup [.str w_neg, .int 0, t])
  | convc {n m e} : m.natAbs ≤ 999 → -1 ≤ e → e ≤ 2 → Tr n 0 (.tup [.str w_conv, .int 0, .tup [.str w_const, .int 1, .tup [.int m, .int e]]])
  | convw {n t} : Tr n 0 t → Tr (n + 1) 0 (.tup [.str w_conv, .int 0, .tup [.str w_conv, .int 1, t]])
  | convt {n t} : Tr n 4 t → Tr (n + 1) 0 (.tup [.str w_conv, .int 0, t])
  | call1 {n nm t} : nm = w_ABS ∨ nm = w_INT ∨ nm = w_ODD → Tr n 0 t → Tr (n + 1) 0 (.tup [.str w_intr, .int 0, .str nm, .lst [t]])
  | call2 {n nm t u} : nm = w_MOD ∨ nm = w_SIGN ∨ nm = w_DIM ∨ nm = w_MAX ∨ nm = w_MIN → Tr n 0 t → Tr n 0 u → Tr (n + 1) 0 (.tup [.str w_intr, .int 0, .str nm, .lst [t, u]])
  | call3 {n nm t u v} : nm = w_MAX ∨ nm = w_MIN → Tr n 0 t → Tr n 0 u → Tr n 0 v → Tr (n + 1) 0 (.tup [.str w_intr, .int 0, .str nm, .lst [t, u, v]])
  | text1 {n nm t} : nm = w_LEN ∨ nm = w_ICHAR → Tr n 5 t → Tr (n + 1) 0 (.tup [.str w_intr, .int 0, .str nm, .lst [t]])
  | index {n t u} : Tr n 5 t → Tr n 5 u → Tr (n + 1) 0 (.tup [.str w_intr, .int 0, .str w_INDEX, .lst [t, u]])
  | place {n t} : PlT t → Tr n 5 t
  | tellS {n m s} : s.length ≤ 3 → (∀ c ∈ s, c ≤ 255) → Tr n 5 (.tup [.str w_tell, .int 5, .int m, .str s])
  | char {n t} : Tr n 0 t → Tr (n + 1) 5 (.tup [.str w_intr, .int 5, .str w_CHAR, .lst [t]])
  | cat {n t u} : Tr n 5 t → Tr n 5 u → Tr (n + 1) 5 (.tup [.str w_cat, .int 5, t, u])
  | tellB {n m b} : Tr n 4 (.tup [.str w_tell, .int 4, .int m, .bool b])
  | not {n t} : Tr n 4 t → Tr (n + 1) 4 (.tup [.str w_not, .int 4, t])
  | comp {n nm t u} : nm = w_LGE ∨ nm = w_LGT ∨ nm = w_LLE ∨ nm = w_LLT → Tr n 5 t → Tr n 5 u → Tr (n + 1) 4 (.tup [.str w_intr, .int 4, .str nm, .lst [t, u]])
theorem Tr.shape {n : Nat} {k : Int} {t : AV} (h : Tr n k t) : ∃ w l, t = .tup (.str w :: .int k :: l) := by
  cases h with
  | place h =>
    obtain ⟨_, _, _, _, _, _, w, l, e, _⟩ := pl_both (p := ⟨[], 0, 0, 0, none, 0, none, none, none, none, none, none, none⟩) h
    exact ⟨w, l, e⟩
  | _ => exact ⟨_, _, rfl⟩
end
end
section
open PySem PySem.W PyProof.Rows PySem.Calls

section
variable {p : Par}
theorem ok_plain {n : Nat} {k : Int} {v : AV} (h : okK n k v) : Plain v ∧ isNone v = false := by
  unfold okK at h
  split at h
  · obtain ⟨i, rfl, _⟩ := h; exact ⟨fun _ => rfl, rfl⟩
  · split at h
    · obtain ⟨s, rfl, _⟩ := h; exact ⟨fun _ => rfl, rfl⟩
    · obtain ⟨b, rfl⟩ := h; exact ⟨fun _ => rfl, rfl⟩
inductive AllOf (p : Par) (n : Nat) (k : Int) (ts : List AV) : Prop
  | mk (ms : List Int) (vs : Option (List AV)) : AllC p (DD n) ts ms vs → AllL p (DD n) ts ms vs → ms.length ≤ ts.length * MM n → (∀ l, vs = some l → l.length = ts.length ∧ ∀ a ∈ l, okK n k a) → AllOf p n k ts
theorem len_c {a b m : Nat} (h : a ≤ m) : a ≤ (b + 1) * m := by rw [Nat.succ_mul]; exact Nat.le_trans h (Nat.le_add_left _ _)
theorem len_a {x y a b m : Nat} (h : x ≤ m) (h2 : y ≤ b * m) : x + y ≤ (b + 1) * m := by rw [Nat.succ_mul, Nat.add_comm]; exact Nat.add_le_add h2 h
theorem all_of {n : Nat} {k : Int} {ts : List AV} : (∀ t ∈ ts, Both p n k t) → AllOf p n k ts := by
  induction ts with
  | nil => exact fun _ => ⟨[], some [], .nil, .nil, Nat.zero_le _, fun l e => by cases e; exact ⟨rfl, fun a h => absurd h List.not_mem_nil⟩⟩
  | cons t ts ih =>
    intro h
    obtain ⟨m1, r1, a1, a2, a3, a4⟩ := h t (.head _)
    obtain ⟨m2, r2, b1, b2, b3, b4⟩ := ih fun u hu => h u (.tail _ hu)
    cases r1 with
    | none => exact ⟨m1, none, .no a1, .no a2, len_c a3, fun l e => by cases e⟩
    | some v =>
      have hv := ok_plain (a4 v rfl)
      refine ⟨m1 ++ m2, r2.map (v :: ·), .cons a1 b1, .cons a2 hv.1 hv.2 b2, by rw [List.length_append]; exact len_a (a := 0) a3 b3, fun l e => ?_⟩
      cases r2 with
      | none => cases e
      | some l2 =>
        cases e
        obtain ⟨c1, c2⟩ := b4 l2 rfl
        exact ⟨by rw [List.length_cons, List.length_cons, c1], fun a ha => by
          rcases List.mem_cons.mp ha with rfl | ha
          · exact a4 _ rfl
          · exact c2 a ha⟩
theorem intr_bothI {n : Nat} {k kd : Int} {name : List Nat} {ts ks : List AV} (hB : ∀ t ∈ ts, Both p n k t) (hks : KindL ts ks) (hlen : ts.length ≤ 3) (hname : name = w_LEN → ∃ w l, ts = [.tup (.str w :: l)] ∧ noPl w)
    (hf : ∀ l, l.length = ts.length → (∀ a ∈ l, okK n k a) → ∃ r, FunC p name ks 8 l r ∧ RestC p name ts l r ∧ ∀ v, r = some v → okK (n + 1) kd v) : BothI p (n + 1) kd (.tup [.str w_intr, .int kd, .str name, .lst ts]) := by
  obtain ⟨ms, vs, h1, h2, h3, h4⟩ := all_of hB
  have d1 : DD n = 14 + 7 * n := rfl
  have d2 : DD (n + 1) = 14 + 7 * (n + 1) := rfl
  have hm : ms.length ≤ MM (n + 1) := by
    rw [MM_succ]
    exact Nat.le_trans h3 (Nat.mul_le_mul_right _ hlen)
  cases vs with
  | none => exact ⟨ms, none, (iv_intr h1 hks hlen hname (by lia) (fun _ => rfl) (fun l e => by cases e)).up (by lia), (lw_intr h2 hlen hname (by lia) (fun _ => rfl) (fun l e => by cases e)).up (by lia), hm, fun v e => by cases e⟩
  | some l =>
    obtain ⟨c1, c2⟩ := h4 l rfl
    obtain ⟨r, f1, f2, f3⟩ := hf l c1 c2
    exact ⟨ms, r, (iv_intr h1 hks hlen hname (by lia) (fun e => by cases e) (fun l' e => by cases e; exact fun n' hn' => f1 n' (by lia))).up (by lia), (lw_intr h2 hlen hname (by lia) (fun e => by cases e) (fun l' e => by cases e; exact f2)).up (by lia), hm, f3⟩
theorem both_I {n : Nat} {kd k : Int} {name : List Nat} {l : AV} (h : BothI p n k (.tup [.str w_intr, .int kd, .str name, l])) : Both p n k (.tup [.str w_intr, .int kd, .str name, l]) := by
  obtain ⟨ms, r, h1, h2, h3, h4⟩ := h
  exact ⟨ms, r, (ev_of_iv h1).up (by show 14 + 7 * n - 1 + 1 ≤ 14 + 7 * n; lia), h2, h3, h4⟩
theorem splitF {n : Nat} (h : 8 ≤ n) : ∃ k, n = k + 8 := ⟨n - 8, by lia⟩
theorem pl_mi (r : Option Int) : ∀ v, r.map AV.int = some v → Plain v := fun v e => by cases r <;> cases e; exact fun _ => rfl
theorem pl_ms (r : Option (List Nat)) : ∀ v, r.map AV.str = some v → Plain v := fun v e => by cases r <;> cases e; exact fun _ => rfl
theorem pl_si (i : Int) : ∀ v, some (AV.int i) = some v → Plain v := fun v e => by cases e; exact fun _ => rfl
theorem pl_sb (i : Bool) : ∀ v, some (AV.bool i) = some v → Plain v := fun v e => by cases e; exact fun _ => rfl
theorem fun_abs {x : Int} : FunC p w_ABS [k0] 8 [.int x] ((kept x.natAbs).map .int) := fun n hn log told ex Q h => by
  obtain ⟨k, rfl⟩ := splitF hn
  exact c_intr (a := 775) rfl (.inl rfl) (pl_mi _) (fun ex Q h => c_without_sign h) h
theorem fun_int {x : Int} : FunC p w_INT [k0] 8 [.int x] (some (.int x)) := fun n hn log told ex Q h => by
  obtain ⟨k, rfl⟩ := splitF hn
  exact c_intr (a := 719) rfl (.inl rfl) (pl_si _) (fun ex Q h => c_as_int h) h
theorem fun_odd {x : AV} : FunC p w_ODD [k0] 8 [x] none := fun n hn log told ex Q h => by
  obtain ⟨k, rfl⟩ := splitF hn
  exact c_intr0 rfl (.inl rfl) h
theorem fun_char {x : Int} : FunC p w_CHAR [k0] 8 [.int x] ((signOf x).map .str) := fun n hn log told ex Q h => by
  obtain ⟨k, rfl⟩ := splitF hn
  exact c_intr (a := 894) rfl (.inl rfl) (pl_ms _) (fun ex Q h => c_sign_of_code h) h
theorem fun_ichar {s : List Nat} (hs : s.length ≤ 500) : FunC p w_ICHAR [k5] 8 [.str s] ((codeO s).map .int) := fun n hn log told ex Q h => by
  obtain ⟨k, rfl⟩ := splitF hn
  exact c_intr (a := 887) rfl (.inr rfl) (pl_mi _) (fun ex Q h => c_code_of hs h) h
theorem fun_len {s : List Nat} (hs : s.length ≤ 500) : FunC p w_LEN [k5] 8 [.str s] (some (.int s.length)) := fun n hn log told ex Q h => by
  obtain ⟨k, rfl⟩ := splitF hn
  exact c_intr (a := 901) rfl (.inr rfl) (pl_si _) (fun ex Q h => c_length_of hs h) h
theorem fun_index {s u : List Nat} : FunC p w_INDEX [k5, k5] 8 [.str s, .str u] (some (.int (findI s u))) := fun n hn log told ex Q h => by
  obtain ⟨k, rfl⟩ := splitF hn
  exact c_intr (a := 908) rfl (.inr rfl) (pl_si _) (fun ex Q h => c_place_of_text h) h
theorem fun_mod {x y : Int} (hx : x.natAbs ≤ 999) (hy : y.natAbs ≤ 999) : FunC p w_MOD [k0, k0] 8 [.int x, .int y] ((remO x y).map .int) := fun n hn log told ex Q h => by
  obtain ⟨k, rfl⟩ := splitF hn
  exact c_intr (a := 782) rfl (.inl rfl) (pl_mi _) (fun ex Q h => c_rest_of hx hy h) h
theorem fun_sign {x y : Int} : FunC p w_SIGN [k0, k0] 8 [.int x, .int y] ((signO x y).map .int) := fun n hn log told ex Q h => by
  obtain ⟨k, rfl⟩ := splitF hn
  exact c_intr (a := 789) rfl (.inl rfl) (pl_mi _) (fun ex Q h => c_with_sign h) h
theorem fun_dim {x y : Int} : FunC p w_DIM [k0, k0] 8 [.int x, .int y] ((dimO x y).map .int) := fun n hn log told ex Q h => by
  obtain ⟨k, rfl⟩ := splitF hn
  exact c_intr (a := 803) rfl (.inl rfl) (pl_mi _) (fun ex Q h => c_difference h) h
theorem fun_max2 {x y : Int} : FunC p w_MAX [k0, k0] 8 [.int x, .int y] (some (.int (max x y))) := fun n hn log told ex Q h => by
  obtain ⟨k, rfl⟩ := splitF hn
  exact c_intr (a := 824) rfl (.inl rfl) (pl_si _) (fun ex Q h => c_great2 h) h
theorem fun_max3 {x y z : Int} : FunC p w_MAX [k0, k0, k0] 8 [.int x, .int y, .int z] (some (.int (max (max x y) z))) := fun n hn log told ex Q h => by
  obtain ⟨k, rfl⟩ := splitF hn
  exact c_intr (a := 824) rfl (.inl rfl) (pl_si _) (fun ex Q h => c_great3 h) h
theorem fun_min2 {x y : Int} : FunC p w_MIN [k0, k0] 8 [.int x, .int y] (some (.int (min x y))) := fun n hn log told ex Q h => by
  obtain ⟨k, rfl⟩ := splitF hn
  exact c_intr (a := 831) rfl (.inl rfl) (pl_si _) (fun ex Q h => c_least2 h) h
theorem fun_min3 {x y z : Int} : FunC p w_MIN [k0, k0, k0] 8 [.int x, .int y, .int z] (some (.int (min (min x y) z))) := fun n hn log told ex Q h => by
  obtain ⟨k, rfl⟩ := splitF hn
  exact c_intr (a := 831) rfl (.inl rfl) (pl_si _) (fun ex Q h => c_least3 h) h
theorem fun_lge {x y : List Nat} (hx : x.length ≤ 500) (hy : y.length ≤ 500) : FunC p w_LGE [k5, k5] 8 [.str x, .str y] (some (.bool (decide (0 ≤ ordI (padTo x y) (padTo y x))))) := fun n hn log told ex Q h => by
  obtain ⟨k, rfl⟩ := splitF hn
  exact c_intr (a := 915) rfl (.inr rfl) (pl_sb _) (fun ex Q h => c_lge hx hy h) h
theorem fun_lgt {x y : List Nat} (hx : x.length ≤ 500) (hy : y.length ≤ 500) : FunC p w_LGT [k5, k5] 8 [.str x, .str y] (some (.bool (decide (0 < ordI (padTo x y) (padTo y x))))) := fun n hn log told ex Q h => by
  obtain ⟨k, rfl⟩ := splitF hn
  exact c_intr (a := 922) rfl (.inr rfl) (pl_sb _) (fun ex Q h => c_lgt hx hy h) h
theorem fun_lle {x y : List Nat} (hx : x.length ≤ 500) (hy : y.length ≤ 500) : FunC p w_LLE [k5, k5] 8 [.str x, .str y] (some (.bool (decide (ordI (padTo x y) (padTo y x) ≤ 0)))) := fun n hn log told ex Q h => by
  obtain ⟨k, rfl⟩ := splitF hn
  exact c_intr (a := 929) rfl (.inr rfl) (pl_sb _) (fun ex Q h => c_lle hx hy h) h
theorem fun_llt {x y : List Nat} (hx : x.length ≤ 500) (hy : y.length ≤ 500) : FunC p w_LLT [k5, k5] 8 [.str x, .str y] (some (.bool (decide (ordI (padTo x y) (padTo y x) < 0)))) := fun n hn log told ex Q h => by
  obtain ⟨k, rfl⟩ := splitF hn
  exact c_intr (a := 936) rfl (.inr rfl) (pl_sb _) (fun ex Q h => c_llt hx hy h) h
theorem of_i {n : Nat} {l : List AV} {m : Nat} (h : l.length = m) (ha : ∀ a ∈ l, okK n 0 a) : ∃ xs : List Int, xs.length = m ∧ l = xs.map .int ∧ ∀ x ∈ xs, x.natAbs ≤ 999 := by
  induction l generalizing m with
  | nil => exact ⟨[], h, rfl, by simp⟩
  | cons a l ih =>
    obtain ⟨x, rfl, hx⟩ : okI a := ha a (.head _)
    cases m with
    | zero => cases h
    | succ m =>
      obtain ⟨xs, h1, rfl, h3⟩ := ih (Nat.succ.inj h) fun b hb => ha b (.tail _ hb)
      exact ⟨x :: xs, by rw [List.length_cons, h1], rfl, fun y hy => by
        rcases List.mem_cons.mp hy with rfl | hy
        · exact hx
        · exact h3 y hy⟩
theorem of_s {n : Nat} {l : List AV} {m : Nat} (hn : n ≤ 4) (h : l.length = m) (ha : ∀ a ∈ l, okK n 5 a) : ∃ xs : List (List Nat), xs.length = m ∧ l = xs.map .str ∧ ∀ x ∈ xs, x.length ≤ 64 ∧ ∀ c ∈ x, c ≤ 255 := by
  induction l generalizing m with
  | nil => exact ⟨[], h, rfl, by simp⟩
  | cons a l ih =>
    obtain ⟨x, rfl, hx⟩ : okS n a := ha a (.head _)
    cases m with
    | zero => cases h
    | succ m =>
      obtain ⟨xs, h1, rfl, h3⟩ := ih (Nat.succ.inj h) fun b hb => ha b (.tail _ hb)
      exact ⟨x :: xs, by rw [List.length_cons, h1], rfl, fun y hy => by
        rcases List.mem_cons.mp hy with rfl | hy
        · have : 2 ^ n ≤ 2 ^ 4 := Nat.pow_le_pow_right (by decide) hn
          exact ⟨by lia, hx.2⟩
        · exact h3 y hy⟩
theorem ok_kept {n : Nat} (i : Int) : ∀ v, (kept i).map AV.int = some v → okK n 0 v := fun v e => by
  unfold kept at e
  split at e
  · rename_i h
    cases e
    exact ⟨i, rfl, by lia⟩
  · cases e
theorem ok_int {n : Nat} {i : Int} (h : i.natAbs ≤ 999) : ∀ v, some (AV.int i) = some v → okK n 0 v := fun v e => by cases e; exact ⟨i, rfl, h⟩
theorem abs_max {a b : Int} {n : Nat} (h1 : a.natAbs ≤ n) (h2 : b.natAbs ≤ n) : (max a b).natAbs ≤ n := by rw [Int.max_def]; split <;> assumption
theorem abs_min {a b : Int} {n : Nat} (h1 : a.natAbs ≤ n) (h2 : b.natAbs ≤ n) : (min a b).natAbs ≤ n := by rw [Int.min_def]; split <;> assumption
theorem ok_bool {n : Nat} {b : Bool} : ∀ v, some (AV.bool b) = some v → okK n 4 v := fun v e => by cases e; exact ⟨b, rfl⟩
theorem rem_le {x y : Int} (hx : x.natAbs ≤ 999) : ∀ v, (remO x y).map AV.int = some v → okI v := fun v e => by
  unfold remO at e
  split at e
  · cases e
  · rename_i h
    cases e
    refine ⟨_, rfl, ?_⟩
    have hr := rem_law x y
    have hb : (0 : Int) ≤ y.natAbs := Int.natCast_nonneg _
    rw [Int.fmod_eq_emod_of_nonneg _ hb] at hr
    have h1 : 0 ≤ (x.natAbs : Int) % y.natAbs := Int.emod_nonneg _ (by lia)
    have h2 : (x.natAbs : Int) % y.natAbs ≤ x.natAbs := by
      have := Nat.mod_le x.natAbs y.natAbs
      rw [← Int.natCast_emod]; lia
    rw [← hr]
    split <;> lia
theorem kl1 {t : AV} {k : Int} (h : ∃ w l, t = .tup (.str w :: .int k :: l)) : KindL [t] [.int k] := by obtain ⟨w, l, rfl⟩ := h; exact .cons .nil
theorem kl2 {t u : AV} {k : Int} (h : ∃ w l, t = .tup (.str w :: .int k :: l)) (h' : ∃ w l, u = .tup (.str w :: .int k :: l)) : KindL [t, u] [.int k, .int k] := by obtain ⟨w, l, rfl⟩ := h; exact .cons (kl1 h')
theorem kl3 {t u v : AV} {k : Int} (h : ∃ w l, t = .tup (.str w :: .int k :: l)) (h' : ∃ w l, u = .tup (.str w :: .int k :: l)) (h'' : ∃ w l, v = .tup (.str w :: .int k :: l)) : KindL [t, u, v] [.int k, .int k, .int k] := by obtain ⟨w, l, rfl⟩ := h; exact .cons (kl2 h' h'')
theorem call1_bothI {n : Nat} {nm : List Nat} {t : AV} (hn : nm = w_ABS ∨ nm = w_INT ∨ nm = w_ODD) (ht : Tr n 0 t) (h : Both p n 0 t) : BothI p (n + 1) 0 (.tup [.str w_intr, .int 0, .str nm, .lst [t]]) := by
  refine intr_bothI (k := 0) (by simpa using h) (kl1 ht.shape) (by simp) (fun e => by rcases hn with rfl | rfl | rfl <;> exact absurd e (by decide)) fun l hl ha => ?_
  obtain ⟨xs, h1, rfl, h3⟩ := of_i hl ha
  match xs, h1 with
  | [x], _ =>
    rcases hn with rfl | rfl | rfl
    · exact ⟨_, fun_abs, rest_abs, ok_kept _⟩
    · exact ⟨_, fun_int, rest_int, ok_int (h3 x (.head _))⟩
    · exact ⟨_, fun_odd, rest_odd, fun v e => by cases e⟩
theorem call2_bothI {n : Nat} {nm : List Nat} {t u : AV} (hn : nm = w_MOD ∨ nm = w_SIGN ∨ nm = w_DIM ∨ nm = w_MAX ∨ nm = w_MIN) (ht : Tr n 0 t) (hu : Tr n 0 u) (h : Both p n 0 t) (h' : Both p n 0 u) : BothI p (n + 1) 0 (.tup [.str w_intr, .int 0, .str nm, .lst [t, u]]) := by
  refine intr_bothI (k := 0) (by simpa using ⟨h, h'⟩) (kl2 ht.shape hu.shape) (by simp) (fun e => by rcases hn with rfl | rfl | rfl | rfl | rfl <;> exact absurd e (by decide)) fun l hl ha => ?_
  obtain ⟨xs, h1, rfl, h3⟩ := of_i hl ha
  match xs, h1 with
  | [x, y], _ =>
    have hx := h3 x (.head _)
    have hy := h3 y (.tail _ (.head _))
    rcases hn with rfl | rfl | rfl | rfl | rfl
    · exact ⟨_, fun_mod hx hy, rest_mod, rem_le hx⟩
    · exact ⟨_, fun_sign, rest_sign, ok_kept _⟩
    · exact ⟨_, fun_dim, rest_dim, ok_kept _⟩
    · exact ⟨_, fun_max2, rest_max2, ok_int (abs_max hx hy)⟩
    · exact ⟨_, fun_min2, rest_min2, ok_int (abs_min hx hy)⟩
theorem call3_bothI {n : Nat} {nm : List Nat} {t u v : AV} (hn : nm = w_MAX ∨ nm = w_MIN) (ht : Tr n 0 t) (hu : Tr n 0 u) (hv : Tr n 0 v) (h : Both p n 0 t) (h' : Both p n 0 u) (h'' : Both p n 0 v) : BothI p (n + 1) 0 (.tup [.str w_intr, .int 0, .str nm, .lst [t, u, v]]) := by
  refine intr_bothI (k := 0) (by simpa using ⟨h, h', h''⟩) (kl3 ht.shape hu.shape hv.shape) (by simp) (fun e => by rcases hn with rfl | rfl <;> exact absurd e (by decide)) fun l hl ha => ?_
  obtain ⟨xs, h1, rfl, h3⟩ := of_i hl ha
  match xs, h1 with
  | [x, y, z], _ =>
    have hx := h3 x (.head _)
    have hy := h3 y (.tail _ (.head _))
    have hz := h3 z (.tail _ (.tail _ (.head _)))
    rcases hn with rfl | rfl
    · exact ⟨_, fun_max3, rest_max3, ok_int (abs_max (abs_max hx hy) hz)⟩
    · exact ⟨_, fun_min3, rest_min3, ok_int (abs_min (abs_min hx hy) hz)⟩
theorem char_bothI {n : Nat} {t : AV} (ht : Tr n 0 t) (h : Both p n 0 t) : BothI p (n + 1) 5 (.tup [.str w_intr, .int 5, .str w_CHAR, .lst [t]]) := by
  refine intr_bothI (k := 0) (by simpa using h) (kl1 ht.shape) (by simp) (fun e => absurd e (by decide)) fun l hl ha => ?_
  obtain ⟨xs, h1, rfl, h3⟩ := of_i hl ha
  match xs, h1 with
  | [x], _ =>
    refine ⟨_, fun_char, rest_char, fun v e => ?_⟩
    unfold signOf at e
    split at e
    · cases e
      refine ⟨_, rfl, ?_, fun c hc => ?_⟩
      · have : 1 ≤ 2 ^ (n + 1) := Nat.one_le_two_pow
        show 1 ≤ _; lia
      · rw [List.mem_singleton] at hc; lia
    · cases e
theorem index_bothI {n : Nat} {t u : AV} (hn4 : n ≤ 4) (ht : Tr n 5 t) (hu : Tr n 5 u) (h : Both p n 5 t) (h' : Both p n 5 u) : BothI p (n + 1) 0 (.tup [.str w_intr, .int 0, .str w_INDEX, .lst [t, u]]) := by
  refine intr_bothI (k := 5) (by simpa using ⟨h, h'⟩) (kl2 ht.shape hu.shape) (by simp) (fun e => absurd e (by decide)) fun l hl ha => ?_
  obtain ⟨xs, h1, rfl, h3⟩ := of_s hn4 hl ha
  match xs, h1 with
  | [x, y], _ =>
    have hx := (h3 x (.head _)).1
    have hb := find_bound x y
    exact ⟨_, fun_index, rest_index, ok_int (by lia)⟩
theorem comp_bothI {n : Nat} {nm : List Nat} {t u : AV} (hn4 : n ≤ 4) (hn : nm = w_LGE ∨ nm = w_LGT ∨ nm = w_LLE ∨ nm = w_LLT) (ht : Tr n 5 t) (hu : Tr n 5 u) (h : Both p n 5 t) (h' : Both p n 5 u) : BothI p (n + 1) 4 (.tup [.str w_intr, .int 4, .str nm, .lst [t, u]]) := by
  refine intr_bothI (k := 5) (by simpa using ⟨h, h'⟩) (kl2 ht.shape hu.shape) (by simp) (fun e => by rcases hn with rfl | rfl | rfl | rfl <;> exact absurd e (by decide)) fun l hl ha => ?_
  obtain ⟨xs, h1, rfl, h3⟩ := of_s hn4 hl ha
  match xs, h1 with
  | [x, y], _ =>
    have hx : x.length ≤ 500 := Nat.le_trans (h3 x (.head _)).1 (by decide)
    have hy : y.length ≤ 500 := Nat.le_trans (h3 y (.tail _ (.head _))).1 (by decide)
    rcases hn with rfl | rfl | rfl | rfl
    · exact ⟨_, fun_lge hx hy, rest_lge hx hy, ok_bool⟩
    · exact ⟨_, fun_lgt hx hy, rest_lgt hx hy, ok_bool⟩
    · exact ⟨_, fun_lle hx hy, rest_lle hx hy, ok_bool⟩
    · exact ⟨_, fun_llt hx hy, rest_llt hx hy, ok_bool⟩
theorem text1_bothI {n : Nat} {nm : List Nat} {t : AV} (hn4 : n ≤ 4) (hn : nm = w_LEN ∨ nm = w_ICHAR) (ht : Tr n 5 t) (h : Both p n 5 t) (hL : nm = w_LEN → ∃ w l, [t] = [.tup (.str w :: l)] ∧ noPl w) : BothI p (n + 1) 0 (.tup [.str w_intr, .int 0, .str nm, .lst [t]]) := by
  refine intr_bothI (k := 5) (by simpa using h) (kl1 ht.shape) (by simp) hL fun l hl ha => ?_
  obtain ⟨xs, h1, rfl, h3⟩ := of_s hn4 hl ha
  match xs, h1 with
  | [x], _ =>
    have hx := (h3 x (.head _)).1
    rcases hn with rfl | rfl
    · exact ⟨_, fun_len (by lia), rest_len (by lia), ok_int (by lia)⟩
    · refine ⟨_, fun_ichar (by lia), rest_ichar (by lia), fun v e => ?_⟩
      have hc := (h3 x (.head _)).2
      cases x with
      | nil => cases e
      | cons c l => cases l with
        | cons _ _ => cases e
        | nil =>
          cases e
          have := hc _ (.head _)
          exact ⟨_, rfl, by lia⟩
end
end
section
open PySem PySem.W PyProof.Rows PySem.Calls

section
variable {p : Par}
theorem num_at (hp : Pok p) (a : Nat) : ∀ v, (numAt p a).map AV.int = some v → okI v := fun v e => by
  have key : ∀ i, numAt p a = some i → i.natAbs ≤ 999 := fun i h => by
    rcases a with _ | _ | _ | _ | a
    · obtain rfl := Option.some.inj (show some p.I = some i from h); exact hp.I
    · exact hp.J _ h
    · obtain rfl := Option.some.inj (show some p.N0 = some i from h); exact hp.N
    · obtain rfl := Option.some.inj (show some 3 = some i from h); decide
    · exact no_some h
  cases h : numAt p a with
  | none => rw [h] at e; cases e
  | some i => rw [h] at e; cases e; exact ⟨i, rfl, key i h⟩
theorem if4 (b : Bool) : (if b then 4 else 3 : Nat) ≤ 4 := by cases b <;> decide
theorem text_mem {l : List (Option Nat)} : ∀ {s : List Nat}, textOf l = some s → ∀ c ∈ s, some c ∈ l := by
  induction l with
  | nil => intro s h; cases h; simp
  | cons a l ih =>
    intro s h c hc
    cases a with
    | none => cases h
    | some a =>
      obtain ⟨q, hq, h⟩ := obind_inv (show (textOf l).bind (fun l => some (a :: l)) = some s from h)
      cases h
      rcases List.mem_cons.mp hc with rfl | hc
      · exact .head _
      · exact .tail _ (ih hq c hc)
theorem text_ok (hp : Pok p) {n : Nat} {x : TP} (hx : x.ok) : ∀ v, (x.text p).map AV.str = some v → okS n v := fun v e => by
  unfold TP.text at e
  cases h : textOf (cutL (sideL p x.t) x.b (x.b + x.n)) with
  | none => rw [h] at e; cases e
  | some s =>
    rw [h] at e
    cases e
    refine okS_mono (Nat.zero_le n) ⟨s, rfl, ?_, fun c hc => hp.S x.t c ?_⟩
    · rw [text_len h]
      unfold cutL
      have h1 := hx.1
      have : (sideL p x.t).length = (if x.t then 4 else 3) := by cases x.t <;> rfl
      rw [List.length_take, List.length_drop]
      have := if4 x.t
      lia
    · have := text_mem h c hc
      unfold cutL at this
      exact List.mem_of_mem_drop (List.mem_of_mem_take this)
theorem EvC.D {n d : Nat} {t : AV} {ms : List Int} {r : Option AV} (h : EvC p t d ms r) (hd : d ≤ 14) : EvC p t (DD n) ms r := h.up (Nat.le_trans hd (Nat.le_add_right _ _))
theorem LawC.D {n d : Nat} {t : AV} {ms : List Int} {r : Option AV} (h : LawC p t d ms r) (hd : d ≤ 14) : LawC p t (DD n) ms r := h.up (Nat.le_trans hd (Nat.le_add_right _ _))
theorem DD_succ (n : Nat) : DD (n + 1) = DD n + 7 := by show 14 + 7 * (n + 1) = 14 + 7 * n + 7; lia
theorem DD_ge (n : Nat) : 14 ≤ DD n := Nat.le_add_right _ _
theorem EvC.N {n j : Nat} {t : AV} {ms : List Int} {r : Option AV} (h : EvC p t (DD n + j) ms r) (hj : j ≤ 7) : EvC p t (DD (n + 1)) ms r := h.up (by rw [DD_succ]; lia)
theorem LawC.N {n j : Nat} {t : AV} {ms : List Int} {r : Option AV} (h : LawC p t (DD n + j) ms r) (hj : j ≤ 7) : LawC p t (DD (n + 1)) ms r := h.up (by rw [DD_succ]; lia)
/-- the numbers' places -/
theorem var_num {nm : List Nat} (h : nm = w_I ∨ nm = w_J ∨ nm = w_P ∨ nm = w_Q) : ∃ a : Option Nat, placeAt nm = a.map numPl ∧ (∀ i, a = some i → i < 5) ∧ a.bind (numAt p) = heldAt p nm := by
  rcases h with rfl | rfl | rfl | rfl
  · exact ⟨some 0, rfl, fun i e => by cases e; decide, rfl⟩
  · exact ⟨some 1, rfl, fun i e => by cases e; decide, rfl⟩
  · exact ⟨none, rfl, (fun i e => by cases e), rfl⟩
  · exact ⟨none, rfl, (fun i e => by cases e), rfl⟩
theorem bind_ok {n : Nat} {a : Option Nat} (hp : Pok p) : ∀ v, (a.bind (numAt p)).map AV.int = some v → okK n 0 v := fun v e => by
  cases a with
  | none => cases e
  | some a => exact num_at hp a v e
theorem isI_ok {n : Nat} {r : Option AV} (h : ∀ v, r = some v → okK n 0 v) : isI r fun i => i.natAbs ≤ 999 := h
theorem M1 {m : Int} (n : Nat) : [m].length ≤ MM n := Nat.le_trans (by decide : 1 ≤ 2) (MM_pos n)
theorem elN_lt {v : Int} : ∀ i, elN v = some i → i < 5 := fun i e => by
  unfold elN at e
  by_cases hv : 1 ≤ v ∧ v ≤ 3
  · rw [if_pos hv] at e; cases e; lia
  · rw [if_neg hv] at e; cases e
theorem len_place (hp : Pok p) {n : Nat} {t : AV} (h : PlT t) : BothI p (n + 1) 0 (.tup [.str w_intr, .int 0, .str w_LEN, .lst [t]]) := by
  obtain ⟨ms, x, a1, a2, a3, a4, w, l, rfl, hw⟩ := pl_both (p := p) h
  refine ⟨ms, _, (iv_len hw a1 (by decide)).up (by show 10 ≤ 14 + 7 * (n + 1) - 1; lia), (lw_len hw a2).D (by decide), Nat.le_trans a3 (MM_pos _), fun v e => ?_⟩
  cases x with
  | none => cases e
  | some x =>
    cases e
    have := (a4 x rfl).1
    refine ⟨_, rfl, ?_⟩
    have := if4 x.t
    lia
theorem kind5 {n : Nat} {v : AV} (h : okK n 5 v) : okS n v := h
theorem kind4 {n : Nat} {v : AV} (h : okK n 4 v) : okB v := h
theorem asI {r : Option AV} {n : Nat} (h : ∀ v, r = some v → okK n 5 v) : ∃ x : Option (List Nat), r = x.map .str ∧ ∀ s, x = some s → s.length ≤ 4 * 2 ^ n ∧ ∀ c ∈ s, c ≤ 255 := by
  cases r with
  | none => exact ⟨none, rfl, fun s e => by cases e⟩
  | some v => obtain ⟨s, rfl, q⟩ := kind5 (h v rfl); exact ⟨some s, rfl, fun s e => by cases e; exact q⟩
theorem asB {r : Option AV} {n : Nat} (h : ∀ v, r = some v → okK n 4 v) : ∃ x : Option Bool, r = x.map .bool := by
  cases r with
  | none => exact ⟨none, rfl⟩
  | some v => obtain ⟨s, rfl⟩ := kind4 (h v rfl); exact ⟨some s, rfl⟩
theorem ok_bindI {n m : Nat} {r : Option AV} {f : Int → Int} : ∀ v, bindI r (fun i => (kept (f i)).map .int) = some v → okK n 0 v := fun v e => by
  cases r with
  | none => exact no_some e
  | some u => cases u with
    | int i => exact ok_kept _ v e
    | _ => exact no_some e
theorem tr_both (hp : Pok p) {n : Nat} {k : Int} {t : AV} (h : Tr n k t) : n ≤ 5 → Both p n k t := by
  induction h with
  | tell hi => exact fun _ => ⟨_, _, ev_tell.D (by decide), lw_tell.D (by decide), M1 _, ok_int (by lia)⟩
  | var hn =>
    intro _
    obtain ⟨a, h1, h2, h3⟩ := var_num (p := p) hn
    refine ⟨[], _, (ev_num (.inl rfl) (d := 3) (a := a) ((h1 ▸ pl_var (by rcases hn with rfl | rfl | rfl | rfl <;> decide) : PlC p _ 2 [] (a.map numPl)).up (by decide)) h2 (by decide)).D (by decide), ?_, Nat.zero_le _, bind_ok hp⟩
    rw [h3]
    exact (lw_var hn).D (by decide)
  | elem =>
    intro _
    exact ⟨_, _, (ev_num (.inr (.inl rfl)) (pl_elemN ev_tell (by decide)) elN_lt (by decide)).D (by decide), (lw_elemN lw_tell).D (by decide), M1 _, bind_ok hp⟩
  | cst hi => exact fun _ => ⟨_, _, ev_cst.D (by decide), lw_cst.D (by decide), Nat.zero_le _, ok_int (by lia)⟩
  | nothing => exact fun _ => ⟨_, _, ev_nothing.D (by decide), lw_nothing.D (by decide), Nat.zero_le _, fun v e => by cases e⟩
  | @neg n t ht ih =>
    intro hn
    obtain ⟨ms, r, a1, a2, a3, a4⟩ := ih (by lia)
    exact ⟨ms, _, (ev_neg a1 (isI_ok a4)).N (by decide), (lw_neg a2 (isI_ok a4) (by have := DD_ge n; lia)).N (by decide), Nat.le_trans a3 (MM_mono (by lia)), ok_bindI (m := 0)⟩
  | convc h1 h2 h3 => exact fun _ => ⟨_, _, (ev_conv_cst h1 h2 h3).D (by decide), (lw_conv_cst h1 h2 h3).D (by decide), Nat.zero_le _, ok_kept _⟩
  | @convw n t ht ih =>
    intro hn
    obtain ⟨ms, r, a1, a2, a3, a4⟩ := ih (by lia)
    obtain ⟨w, l, rfl⟩ := ht.shape
    exact ⟨ms, _, (ev_conv_whole a1 (isI_ok a4) (by have := DD_ge n; lia)).N (by decide), (lw_conv_whole a2 (isI_ok a4) (by have := DD_ge n; lia)).N (by decide), Nat.le_trans a3 (MM_mono (by lia)), ok_bindI (m := 0) (f := fun i => i)⟩
  | @convt n t ht ih =>
    intro hn
    obtain ⟨ms, r, a1, a2, a3, a4⟩ := ih (by lia)
    obtain ⟨w, l, rfl⟩ := ht.shape
    exact ⟨ms, _, (ev_conv_truth a1).N (by decide), (lw_conv_truth a2 (fun e => by obtain ⟨b, e2⟩ := kind4 (a4 _ e); cases e2) (fun v e => kind4 (a4 v e))).N (by decide), Nat.le_trans a3 (MM_mono (by lia)), fun v e => by cases e⟩
  | call1 hnm ht ih => exact fun hn => both_I (call1_bothI hnm ht (ih (by lia)))
  | call2 hnm ht hu ih ih' => exact fun hn => both_I (call2_bothI hnm ht hu (ih (by lia)) (ih' (by lia)))
  | call3 hnm ht hu hv ih ih' ih'' => exact fun hn => both_I (call3_bothI hnm ht hu hv (ih (by lia)) (ih' (by lia)) (ih'' (by lia)))
  | text1 hnm ht ih =>
    intro hn
    rcases hnm with rfl | rfl
    · have ih' := ih (by lia)
      have ht' := ht
      cases ht with
      | place hpl => exact both_I (len_place hp hpl)
      | tellS _ _ => exact both_I <| text1_bothI (by lia) (.inl rfl) ht' ih' fun _ => ⟨_, _, rfl, .inl rfl⟩
      | char _ => exact both_I <| text1_bothI (by lia) (.inl rfl) ht' ih' fun _ => ⟨_, _, rfl, .inr (.inr rfl)⟩
      | cat _ _ => exact both_I <| text1_bothI (by lia) (.inl rfl) ht' ih' fun _ => ⟨_, _, rfl, .inr (.inl rfl)⟩
    · exact both_I <| text1_bothI (by lia) (.inr rfl) ht (ih (by lia)) fun e => absurd e (by decide)
  | index ht hu ih ih' => exact fun hn => both_I (index_bothI (by lia) ht hu (ih (by lia)) (ih' (by lia)))
  | place hpl =>
    intro _
    obtain ⟨ms, x, a1, a2, a3, a4, w, l, rfl, hw⟩ := pl_both (p := p) hpl
    refine ⟨ms, _, (ev_text hw a1 a4 (by decide)).D (by decide), (lw_text hw a2 a4).D (by decide), Nat.le_trans a3 (MM_pos _), fun v e => ?_⟩
    cases x with
    | none => cases e
    | some x => exact text_ok hp (a4 x rfl) v e
  | tellS h1 h2 => exact fun _ => ⟨_, _, ev_tell.D (by decide), lw_tell.D (by decide), M1 _, fun v e => by cases e; exact okS_mono (Nat.zero_le _) ⟨_, rfl, by lia, h2⟩⟩
  | char ht ih => exact fun hn => both_I (char_bothI ht (ih (by lia)))
  | @cat n t u ht hu ih ih' =>
    intro hn
    obtain ⟨ms, r, a1, a2, a3, a4⟩ := ih (by lia)
    obtain ⟨ms', r', b1, b2, b3, b4⟩ := ih' (by lia)
    obtain ⟨x, rfl, hx⟩ := asI a4
    obtain ⟨y, rfl, hy⟩ := asI b4
    have hb : 4 * 2 ^ n ≤ 500 := by
      have : 2 ^ n ≤ 2 ^ 4 := Nat.pow_le_pow_right (by decide) (by lia)
      lia
    refine ⟨_, _, (ev_cat a1 b1 (fun s e => Nat.le_trans (hx s e).1 hb) (fun s e => Nat.le_trans (hy s e).1 hb)).N (by decide), (lw_cat a2 b2 (fun s e => Nat.le_trans (hx s e).1 hb) (fun s e => Nat.le_trans (hy s e).1 hb)).N (by decide), ?_, fun v e => ?_⟩
    · have h3 := MM_succ n
      cases x
      · exact Nat.le_trans a3 (MM_mono (by lia))
      · dsimp only [catM]; rw [List.length_append]; lia
    · cases x with
      | none => cases e
      | some x => cases y with
        | none => cases e
        | some y =>
          cases e
          refine ⟨_, rfl, ?_, fun c hc => ?_⟩
          · rw [List.length_append, Nat.pow_succ]
            have := (hx x rfl).1
            have := (hy y rfl).1
            lia
          · rcases List.mem_append.mp hc with h | h
            · exact (hx x rfl).2 c h
            · exact (hy y rfl).2 c h
  | tellB => exact fun _ => ⟨_, _, ev_tell.D (by decide), lw_tell.D (by decide), M1 _, ok_bool⟩
  | @not n t ht ih =>
    intro hn
    obtain ⟨ms, r, a1, a2, a3, a4⟩ := ih (by lia)
    obtain ⟨b, rfl⟩ := asB a4
    exact ⟨ms, _, (ev_not a1).N (by decide), (lw_not a2).N (by decide), Nat.le_trans a3 (MM_mono (by lia)), fun v e => by cases b <;> cases e; exact ⟨_, rfl⟩⟩
  | comp hnm ht hu ih ih' => exact fun hn => both_I (comp_bothI (by lia) hnm ht hu (ih (by lia)) (ih' (by lia)))
/-- a call out of the drawers -/
noncomputable def isCall (t : AV) : Prop := ∃ nm l, t = .tup [.str w_intr, .int 0, .str nm, .lst l]
theorem text1_call (hp : Pok p) {n : Nat} {nm : List Nat} {t : AV} (hn : n ≤ 4) (hnm : nm = w_LEN ∨ nm = w_ICHAR) (ht : Tr n 5 t) : BothI p (n + 1) 0 (.tup [.str w_intr, .int 0, .str nm, .lst [t]]) := by
  have ih' := tr_both hp ht (by lia)
  rcases hnm with rfl | rfl
  · have ht' := ht
    cases ht with
    | place hpl => exact len_place hp hpl
    | tellS _ _ => exact text1_bothI hn (.inl rfl) ht' ih' fun _ => ⟨_, _, rfl, .inl rfl⟩
    | char _ => exact text1_bothI hn (.inl rfl) ht' ih' fun _ => ⟨_, _, rfl, .inr (.inr rfl)⟩
    | cat _ _ => exact text1_bothI hn (.inl rfl) ht' ih' fun _ => ⟨_, _, rfl, .inr (.inl rfl)⟩
  · exact text1_bothI hn (.inr rfl) ht ih' fun e => absurd e (by decide)
theorem tr_call (hp : Pok p) {n : Nat} {t : AV} (h : Tr n 0 t) (hc : isCall t) (hn : n ≤ 5) : BothI p n 0 t := by
  obtain ⟨nm, l, rfl⟩ := hc
  cases h with
  | call1 hnm ht => exact call1_bothI hnm ht (tr_both hp ht (by lia))
  | call2 hnm ht hu => exact call2_bothI hnm ht hu (tr_both hp ht (by lia)) (tr_both hp hu (by lia))
  | call3 hnm ht hu hv => exact call3_bothI hnm ht hu hv (tr_both hp ht (by lia)) (tr_both hp hu (by lia)) (tr_both hp hv (by lia))
  | text1 hnm ht => exact text1_call hp (by lia) hnm ht
  | index ht hu => exact index_bothI (by lia) ht hu (tr_both hp ht (by lia)) (tr_both hp hu (by lia))
end
end
section
open PySem PySem.W PyProof.Rows PySem.Calls
/-- the loaf and what lies behind it -/
noncomputable def L (sc : List Int) (e m : Int) (rest : St) : St := .dict [(w_cells, .lst (intL sc)), (w_eaten, .int e), (w_mark, .int m)] :: rest
section
variable {sc : List Int} {e m : Int} {rest : St} {k : Nat} {ex : St → Prop} {Q : KE}
theorem idx_map {l : List Int} {i : Int} (h0 : 0 ≤ i) (h1 : i < l.length) (h2 : l.length ≤ 63) : ∃ x, idx (intL l) i = some (.int x) := by
  unfold idx
  rw [if_pos h0, if_pos (by lia)]
  refine ⟨l[i.toNat]'(by lia), ?_⟩
  rw [intL, List.getElem?_map, List.getElem?_eq_getElem (by lia)]; rfl
theorem mod_nn {a n : Int} (hn : 0 < n) : 0 ≤ a.fmod n := by rw [Int.fmod_eq_emod_of_nonneg _ (by lia)]; exact Int.emod_nonneg _ (by lia)
theorem mod_lt {a n : Int} (hn : 0 < n) : a.fmod n < n := by rw [Int.fmod_eq_emod_of_nonneg _ (by lia)]; exact Int.emod_lt_of_pos _ hn
theorem c_bite {n : Int} (hsc : sc.length ≤ 63) (he : 0 ≤ e) (he2 : e ≤ 1000000) (hn : 0 < n) (h : ∀ v, 0 ≤ v → v < n → Q (.int v) (L sc (e + 1) m rest)) : CC (k + 1) (.top 1213) [.obj 0, .int n] (L sc e m rest) ex Q := by
  have hlen : (intL sc).length = sc.length := by simp [intL]
  refine cn_top rfl ⟨rfl, 60, ?_⟩
  walk_at "s"
  · obtain ⟨x, hx⟩ := idx_map (l := sc) (i := e + 1 - 1) (by lia) (by lia) hsc
    refine osB_i (o := subop _ _ _) hx ?_
    walk_at "s"
    exact .inl (h _ (mod_nn hn) (mod_lt hn))
  · exact .inl (h _ (mod_nn hn) (mod_lt hn))
theorem c_told {kd : Int} {v : AV} (h : Q (.tup [.str w_tell, .int kd, .int (m + 1), v]) (L sc e (m + 1) rest)) : CC (k + 1) (.top 1220) [.obj 0, .int kd, v] (L sc e m rest) ex Q := by
  refine cn_top rfl ⟨rfl, 60, ?_⟩
  walk_at "s"
  exact .inl h

/-- the pieces that are left: how far one may eat, and what is to be shown -/
noncomputable def KT (sc : List Int) (rest : St) (Q : KE) (n : Nat) (kd : Int) (P : AV → Prop) (b : Nat) (e : Int) : Prop := (sc.length ≤ 63 ∧ 0 ≤ e ∧ e + b ≤ 1000000) ∧ ∀ t e' m', Tr n kd t → P t → e ≤ e' → e' ≤ e + b → Q t (L sc e' m' rest)
section
variable {n : Nat} {kd : Int} {P : AV → Prop} {b : Nat}
theorem KT.one (h : KT sc rest Q n kd P (b + 1) e) : KT sc rest Q n kd P b (e + 1) :=
  ⟨⟨h.1.1, by have := h.1.2.1; lia, by have := h.1.2.2; lia⟩, fun t e' m' a1 a2 a3 a4 => h.2 t e' m' a1 a2 (by lia) (by lia)⟩
theorem KT.sub {a : Nat} (h : KT sc rest Q n kd P (a + b) e) (h1 : e ≤ e') (h2 : e' ≤ e + a) : KT sc rest Q n kd P b e' :=
  ⟨⟨h.1.1, by have := h.1.2.1; lia, by have := h.1.2.2; lia⟩, fun t e'' m' a1 a2 a3 a4 => h.2 t e'' m' a1 a2 (by lia) (by lia)⟩
theorem KT.drop {a : Nat} (h : KT sc rest Q n kd P (b + a) e) : KT sc rest Q n kd P b e := KT.sub (a := a) (by rw [Nat.add_comm]; exact h) (Int.le_refl _) (by lia)
theorem KT.weak {b' : Nat} (h : KT sc rest Q n kd P b e) (hb : b' ≤ b) : KT sc rest Q n kd P b' e := KT.drop (a := b - b') (by rw [Nat.add_sub_cancel' hb]; exact h)
theorem KT.fin {t : AV} (h : KT sc rest Q n kd P b e) (ht : Tr n kd t) (hp : P t) : Q t (L sc e m rest) := h.2 t e m ht hp (Int.le_refl _) (by lia)
theorem KT.fins {t : AV} (h : KT sc rest Q n kd (fun _ => True) b e) (ht : Tr n kd t) : Q t (L sc e m rest) := h.fin ht trivial
/-- one bite -/
theorem KT.bite {i : Int} {K : KE} (hK : KT sc rest Q n kd P (b + 1) e) (hi : 0 < i) (h : ∀ v, 0 ≤ v → v < i → KT sc rest Q n kd P b (e + 1) → K (.int v) (L sc (e + 1) m rest)) : CC (k + 1) (.top 1213) [.obj 0, .int i] (L sc e m rest) ex K :=
  c_bite hK.1.1 hK.1.2.1 (by have := hK.1.2.2; lia) hi fun v h0 h1 => h v h0 h1 hK.one
end
/-- what a drawer gives -/
noncomputable def Gen (a : Addr) (d : Nat) (n : Nat) (A : Nat) (tn : Nat) (kd : Int) (P : AV → Prop := fun _ => True) : Prop := ∀ k, d ≤ k → ∀ sc e m rest ex Q, KT sc rest Q tn kd P A e → CC k (.top a) [.obj 0, .int n] (L sc e m rest) ex Q
theorem Gen.use {a : Addr} {d n A tn : Nat} {kd : Int} {P P' : AV → Prop} {n' b : Nat} {kd' : Int} {K : KE} (g : Gen a d n A tn kd P) {i : Int} (hi : i = n) (hd : d ≤ k) (hK : KT sc rest Q n' kd' P' (A + b) e) (h : ∀ t e' m', Tr tn kd t → P t → KT sc rest Q n' kd' P' b e' → K t (L sc e' m' rest)) : CC k (.top a) [.obj 0, .int i] (L sc e m rest) ex K := by
  subst hi
  exact g k hd _ _ _ _ _ _ ⟨⟨hK.1.1, hK.1.2.1, by have := hK.1.2.2; lia⟩, fun t e' m' a1 a2 a3 a4 => h t e' m' a1 a2 (hK.sub a3 a4)⟩
noncomputable def BB : Nat → Nat
  | 0 => 0
  | n + 1 => BB n + 8 + (BB n + 8 + (BB n + 8 + 0))
noncomputable abbrev AA (n : Nat) : Nat := BB n + 8
noncomputable def CN : Nat → Nat := fun n => BB (n + 1) + 2
theorem KT.three {n' : Nat} {kd : Int} {P : AV → Prop} {n : Nat} (h : KT sc rest Q n' kd P (BB (n + 1)) e) : KT sc rest Q n' kd P (AA n + (AA n + (AA n + 0))) e := h
theorem idx_in {α : Type} {l : List α} {P : α → Prop} {v : Int} (h0 : 0 ≤ v) (h1 : v < l.length) (hl : l.length ≤ 100) (hP : ∀ x ∈ l, P x) : ∃ x, idx l v = some x ∧ P x := by
  refine ⟨l[v.toNat]'(by lia), ?_, hP _ (List.getElem_mem _)⟩
  unfold idx
  rw [if_pos h0, if_pos (by lia)]
  exact List.getElem?_eq_getElem _

noncomputable abbrev inL (x : List Nat) (l : List (List Nat)) : Bool := l.any fun y => decide (y = x)
noncomputable abbrev Grp (x : List Nat) : Prop :=
  (inL x [w_LEN, w_ICHAR] = true ∧ (x = w_LEN ∨ x = w_ICHAR)) ∨ (inL x [w_LEN, w_ICHAR] = false ∧
  (x = w_INDEX ∨ (decide (x = w_INDEX) = false ∧
  ((inL x [w_ABS, w_INT, w_ODD] = true ∧ inL x [w_MAX, w_MIN] = false ∧ (x = w_ABS ∨ x = w_INT ∨ x = w_ODD)) ∨ (inL x [w_ABS, w_INT, w_ODD] = false ∧
  ((inL x [w_MAX, w_MIN] = true ∧ (x = w_MAX ∨ x = w_MIN)) ∨
  (inL x [w_MAX, w_MIN] = false ∧ (x = w_MOD ∨ x = w_SIGN ∨ x = w_DIM))))))))
theorem nm_groups {v : Int} (h0 : 0 ≤ v) (h1 : v < 12) : ∃ u, idx ([w_ABS, w_MOD, w_SIGN, w_DIM, w_LEN, w_MAX, w_MIN, w_ICHAR, w_INDEX, w_INT, w_ODD, w_LEN].map AV.str) v = some u ∧ ∃ x, u = .str x ∧ Grp x :=
  idx_in h0 h1 (by decide) (List.forall_mem_map.mpr fun x hx => ⟨x, rfl, (by decide : ∀ x ∈ [w_ABS, w_MOD, w_SIGN, w_DIM, w_LEN, w_MAX, w_MIN, w_ICHAR, w_INDEX, w_INT, w_ODD, w_LEN], Grp x) x hx⟩)
theorem genC {n d : Nat} (iW : Gen 1227 d n (AA n) n 0) (iT : Gen 1237 d n (AA n) n 5) (hd : 2 ≤ d) : Gen 1232 (d + 1) (n + 1) (CN n) (n + 1) 0 isCall := fun k hk sc e m rest ex Q hK => by
  obtain ⟨k, rfl, hk⟩ := splitN (j := 1) hk
  obtain ⟨k, rfl⟩ : ∃ k', k = k' + 2 := ⟨k - 2, by lia⟩
  have hk2 : d ≤ k + 2 := by lia
  have en : (((n + 1 : Nat) : Int) - 1) = n := by lia
  refine cn_top rfl ⟨rfl, 60, ?_⟩
  walk_at "s"
  refine hK.bite (by decide) fun v h0 h1 hK => ?_
  obtain ⟨_, e1, x, rfl, hx⟩ := nm_groups h0 h1
  refine osB_i (o := subop _ _ _) e1 ?_
  walk_at "s"
  rcases hx with ⟨t1, hx⟩ | ⟨t1, hx⟩
  · refine sel_rt t1 ?_
    walk_at "s"
    refine iT.use en hk2 hK.drop.three fun t1 e1 m1 ht1 _ hK => ?_
    walk_at "s"
    exact .inl (hK.fin (.text1 hx ht1) ⟨_, _, rfl⟩)
  refine sel_rf t1 ?_
  rcases hx with rfl | ⟨t2, hx⟩
  · walk_at "s"
    refine iT.use en hk2 hK.drop.three fun t1 e1 m1 ht1 _ hK => ?_
    walk_at "s"
    refine iT.use en hk2 hK fun t2 e2 m2 ht2 _ hK => ?_
    walk_at "s"
    exact .inl (hK.fin (.index ht1 ht2) ⟨_, _, rfl⟩)
  walk_at "s"
  rcases hx with ⟨t3, t4, hx⟩ | ⟨t3, hx⟩
  · refine sel_rt t3 ?_
    walk_at "s"
    refine sel_rf t4 ?_
    walk_at "s"
    refine iW.use en hk2 hK.drop.three fun t1 e1 m1 ht1 _ hK => ?_
    walk_at "s"
    exact .inl (hK.fin (.call1 hx ht1) ⟨_, _, rfl⟩)
  refine sel_rf t3 ?_
  walk_at "s"
  rcases hx with ⟨t4, hx⟩ | ⟨t4, hx⟩
  · refine sel_rt t4 ?_
    walk_at "s"
    refine hK.bite (by decide) fun v h0 h1 hK => ?_
    have : v = 0 ∨ v = 1 := by lia
    replace hK := hK.three
    rcases this with rfl | rfl
    · walk_at "s"
      refine iW.use en hk2 hK fun t1 e1 m1 ht1 _ hK => ?_
      walk_at "s"
      refine iW.use en hk2 hK fun t2 e2 m2 ht2 _ hK => ?_
      walk_at "s"
      exact .inl (hK.fin (.call2 (.inr (.inr (.inr hx))) ht1 ht2) ⟨_, _, rfl⟩)
    · walk_at "s"
      refine iW.use en hk2 hK fun t1 e1 m1 ht1 _ hK => ?_
      walk_at "s"
      refine iW.use en hk2 hK fun t2 e2 m2 ht2 _ hK => ?_
      walk_at "s"
      refine iW.use en hk2 hK fun t3 e3 m3 ht3 _ hK => ?_
      walk_at "s"
      exact .inl (hK.fin (.call3 hx ht1 ht2 ht3) ⟨_, _, rfl⟩)
  · refine sel_rf t4 ?_
    walk_at "s"
    refine iW.use en hk2 hK.drop.three fun t1 e1 m1 ht1 _ hK => ?_
    walk_at "s"
    refine iW.use en hk2 hK fun t2 e2 m2 ht2 _ hK => ?_
    walk_at "s"
    exact .inl (hK.fin (.call2 (by rcases hx with h | h | h <;> (first | exact .inl h | exact .inr (.inl h) | exact .inr (.inr (.inl h)))) ht1 ht2) ⟨_, _, rfl⟩)

theorem KT.way {i j : Int} {c : Bool} {n : Nat} {kd : Int} {P : AV → Prop} {b : Nat} {K : KE} (hK : KT sc rest Q n kd P (b + 1) e) (hi : 0 < i) (hj : 0 < j) (h : ∀ v, 0 ≤ v → v < (if c then i else j) → KT sc rest Q n kd P b (e + 1) → K (.int v) (L sc (e + 1) m rest)) :
    sel c (CC (k + 1) (.top 1213) [.obj 0, .int i] (L sc e m rest) ex K) (CC (k + 1) (.top 1213) [.obj 0, .int j] (L sc e m rest) ex K) := by
  cases c with
  | true => exact hK.bite hi h
  | false => exact hK.bite hj h
theorem genT {n d : Nat} (hd : 3 ≤ d) (iW : ∀ n', n = n' + 1 → Gen 1227 d n' (AA n') n' 0) (iT : ∀ n', n = n' + 1 → Gen 1237 d n' (AA n') n' 5) : Gen 1237 (d + 1) n (AA n) n 5 := fun k hk sc e m rest ex Q hK => by
  obtain ⟨k, rfl, hk⟩ := splitN (j := 1) hk
  obtain ⟨k, rfl⟩ : ∃ k', k = k' + 3 := ⟨k - 3, by lia⟩
  refine cn_top rfl ⟨rfl, 60, ?_⟩
  conv => whnf
  refine hK.way (by decide) (by decide) fun v h0 h1 hK => ?_
  walk_at "s"
  · exact .inl (hK.fins (.place .S))
  · refine hK.bite (by decide) fun v2 g0 g1 hK => ?_
    walk_at "s"
    refine c_told ?_
    walk_at "s"
    exact .inl (hK.fins (.place (.T g0 (by lia))))
  · refine hK.bite (by decide) fun v2 g0 g1 hK => ?_
    obtain ⟨base, e1, hb⟩ := idx_in (l := [AV.tup [.str w_var, .int 5, .str w_S], .tup [.str w_elem, .int 5, .str w_T, .lst [.tup [.str w_const, .int 0, .int 1]]]]) (P := fun u => u = .tup [.str w_var, .int 5, .str w_S] ∨ u = .tup [.str w_elem, .int 5, .str w_T, .lst [.tup [.str w_const, .int 0, .int 1]]]) g0 g1 (by decide) (by simp)
    refine osB_i (o := subop _ _ _) e1 ?_
    walk_at "s"
    refine hK.bite (by decide) fun v3 _ _ hK => ?_
    walk_at "s"
    · refine hK.bite (by decide) fun v4 _ _ hK => ?_
      walk_at "s"
      · exact .inl (hK.fins (.place (.sub hb (.inl rfl) (.inl rfl))))
      · refine hK.bite (by decide) fun v5 _ _ hK => ?_
        walk_at "s"
        refine c_told ?_
        walk_at "s"
        exact .inl (hK.fins (.place (.sub hb (.inl rfl) (.inr ⟨_, _, rfl⟩))))
    · refine hK.bite (by decide) fun v6 _ _ hK => ?_
      walk_at "s"
      refine c_told ?_
      walk_at "s"
      refine hK.bite (by decide) fun v4 _ _ hK => ?_
      walk_at "s"
      · exact .inl (hK.fins (.place (.sub hb (.inr ⟨_, _, rfl⟩) (.inl rfl))))
      · refine hK.bite (by decide) fun v5 _ _ hK => ?_
        walk_at "s"
        refine c_told ?_
        walk_at "s"
        exact .inl (hK.fins (.place (.sub hb (.inr ⟨_, _, rfl⟩) (.inr ⟨_, _, rfl⟩))))
  · refine hK.bite (by decide) fun v2 g0 g1 hK => ?_
    obtain ⟨_, e1, x, rfl, hx, hy⟩ := idx_in (l := [AV.str [65], AV.str [], AV.str [65, 66], AV.str [66, 32], AV.str [98]]) (P := fun u => ∃ s, u = .str s ∧ s.length ≤ 3 ∧ ∀ c ∈ s, c ≤ 255) g0 g1 (by decide) (by intro u hu; simp only [List.mem_cons, List.not_mem_nil, or_false] at hu; rcases hu with rfl | rfl | rfl | rfl | rfl <;> exact ⟨_, rfl, by decide, by decide⟩)
    refine osB_i (o := subop _ _ _) e1 ?_
    walk_at "s"
    refine c_told ?_
    exact .inl (hK.fins (.tellS hx hy))
  · have hn : ∃ n', n = n' + 1 := by
      cases n with
      | zero => exfalso; have : v < 4 := h1; lia
      | succ n' => exact ⟨n', rfl⟩
    obtain ⟨n, rfl⟩ := hn
    have en : (((n + 1 : Nat) : Int) - 1) = n := by lia
    refine (iW n rfl).use en (by lia) hK.drop.three fun t1 e1 m1 ht1 _ hK => ?_
    walk_at "s"
    exact .inl (hK.fins (.char ht1))
  · have hn : ∃ n', n = n' + 1 := by
      cases n with
      | zero => exfalso; have : v < 4 := h1; lia
      | succ n' => exact ⟨n', rfl⟩
    obtain ⟨n, rfl⟩ := hn
    have en : (((n + 1 : Nat) : Int) - 1) = n := by lia
    refine (iT n rfl).use en (by lia) hK.drop.three fun t1 e1 m1 ht1 _ hK => ?_
    walk_at "s"
    refine (iT n rfl).use en (by lia) hK fun t2 e2 m2 ht2 _ hK => ?_
    walk_at "s"
    exact .inl (hK.fins (.cat ht1 ht2))
theorem genB {n d : Nat} (hd : 3 ≤ d) (iB : ∀ n', n = n' + 1 → Gen 1244 d n' (AA n') n' 4) (iT : ∀ n', n = n' + 1 → Gen 1237 d n' (AA n') n' 5) : Gen 1244 (d + 1) n (AA n) n 4 := fun k hk sc e m rest ex Q hK => by
  obtain ⟨k, rfl, hk⟩ := splitN (j := 1) hk
  obtain ⟨k, rfl⟩ : ∃ k', k = k' + 3 := ⟨k - 3, by lia⟩
  cases n with
  | zero =>
    refine cn_top rfl ⟨rfl, 60, ?_⟩
    walk_at "s"
    refine hK.bite (by decide) fun v2 g0 g1 hK => ?_
    walk_at "s"
    refine c_told ?_
    exact .inl (hK.fins .tellB)
  | succ n =>
    have en : (((n + 1 : Nat) : Int) - 1) = n := by lia
    have hk2 : d ≤ k + 3 := by lia
    refine cn_top rfl ⟨rfl, 60, ?_⟩
    walk_at "s"
    refine hK.bite (by decide) fun v h0 h1 hK => ?_
    walk_at "s"
    · refine hK.bite (by decide) fun v2 g0 g1 hK => ?_
      walk_at "s"
      refine c_told ?_
      exact .inl (hK.fins .tellB)
    · refine (iB n rfl).use en hk2 hK.drop.three fun t1 e1 m1 ht1 _ hK => ?_
      walk_at "s"
      exact .inl (hK.fins (.not ht1))
    · refine hK.bite (by decide) fun v2 g0 g1 hK => ?_
      obtain ⟨_, e1, x, rfl, hx⟩ := idx_in (l := [AV.str w_LGE, .str w_LGT, .str w_LLE, .str w_LLT]) (P := fun u => ∃ s, u = .str s ∧ (s = w_LGE ∨ s = w_LGT ∨ s = w_LLE ∨ s = w_LLT)) g0 g1 (by decide) (List.forall_mem_cons.mpr ⟨⟨_, rfl, .inl rfl⟩, List.forall_mem_cons.mpr ⟨⟨_, rfl, .inr (.inl rfl)⟩, List.forall_mem_cons.mpr ⟨⟨_, rfl, .inr (.inr (.inl rfl))⟩, List.forall_mem_cons.mpr ⟨⟨_, rfl, .inr (.inr (.inr rfl))⟩, fun _ h => nomatch h⟩⟩⟩⟩)
      refine osB_i (o := subop _ _ _) e1 ?_
      walk_at "s"
      refine (iT n rfl).use en hk2 hK.drop.three fun t1 e1 m1 ht1 _ hK => ?_
      walk_at "s"
      refine (iT n rfl).use en hk2 hK fun t2 e2 m2 ht2 _ hK => ?_
      walk_at "s"
      exact .inl (hK.fins (.comp hx ht1 ht2))
theorem of4 {v : Int} (h0 : 0 ≤ v) (h1 : v < 4) : v = 0 ∨ v = 1 ∨ v = 2 ∨ v = 3 := by lia
theorem BB_one (n j : Nat) : AA n + 1 ≤ BB (n + 1) + j := by show _ ≤ BB n + 8 + (BB n + 8 + (BB n + 8 + 0)) + j; lia
theorem genW {n d : Nat} (hd : 3 ≤ d) (iW : ∀ n', n = n' + 1 → Gen 1227 d n' (AA n') n' 0) (iB : ∀ n', n = n' + 1 → Gen 1244 d n' (AA n') n' 4) (iC : ∀ n', n = n' + 1 → Gen 1232 (d + 1) n (CN n') n 0 isCall) : Gen 1227 (d + 2) n (AA n) n 0 := fun k hk sc e m rest ex Q hK => by
  obtain ⟨k, rfl, hk⟩ := splitN (j := 2) hk
  obtain ⟨k, rfl⟩ : ∃ k', k = k' + 3 := ⟨k - 3, by lia⟩
  refine cn_top rfl ⟨rfl, 60, ?_⟩
  conv => whnf
  refine hK.way (by decide) (by decide) fun v h0 h1 hK => ?_
  walk_at "s"
  · refine hK.bite (by decide) fun v2 a0 a1 hK => ?_
    walk_at "s"
    refine hK.bite (by decide) fun v3 g0 g1 hK => ?_
    obtain ⟨_, e1, x, rfl, hx⟩ := idx_in (l := [AV.int (v2 - 4), .int 127, .int (-128), .int 65]) (P := fun u => ∃ i : Int, u = .int i ∧ i.natAbs ≤ 200) g0 g1 (Nat.le_of_ble_eq_true rfl) (List.forall_mem_cons.mpr ⟨⟨_, rfl, by lia⟩, List.forall_mem_cons.mpr ⟨⟨_, rfl, by lia⟩, List.forall_mem_cons.mpr ⟨⟨_, rfl, by lia⟩, List.forall_mem_cons.mpr ⟨⟨_, rfl, by lia⟩, fun _ h => nomatch h⟩⟩⟩⟩)
    refine osB_i (o := subop _ _ _) e1 ?_
    walk_at "s"
    refine c_told ?_
    exact .inl (hK.fins (.tell hx))
  · refine hK.bite (by decide) fun v2 g0 g1 hK => ?_
    rcases of4 g0 g1 with rfl | rfl | rfl | rfl
    · walk_at "s"
      exact .inl (hK.fins (.var (.inl rfl)))
    · walk_at "s"
      exact .inl (hK.fins (.var (.inr (.inl rfl))))
    · walk_at "s"
      exact .inl (hK.fins (.var (.inr (.inr (.inl rfl)))))
    · walk_at "s"
      exact .inl (hK.fins (.var (.inr (.inr (.inr rfl)))))
  · refine hK.bite (by decide) fun v2 g0 g1 hK => ?_
    walk_at "s"
    refine c_told ?_
    walk_at "s"
    exact .inl (hK.fins .elem)
  · refine hK.bite (by decide) fun v2 g0 g1 hK => ?_
    walk_at "s"
    exact .inl (hK.fins (.cst (by lia)))
  · have hn : ∃ n', n = n' + 1 := by
      cases n with
      | zero => exfalso; have : v < 5 := h1; lia
      | succ n' => exact ⟨n', rfl⟩
    obtain ⟨n, rfl⟩ := hn
    have en : (((n + 1 : Nat) : Int) - 1) = n := by lia
    refine (iW n rfl).use en (by lia) hK.drop.three fun t1 e1 m1 ht1 _ hK => ?_
    walk_at "s"
    exact .inl (hK.fins (.neg ht1))
  · have hn : ∃ n', n = n' + 1 := by
      cases n with
      | zero => exfalso; have : v < 5 := h1; lia
      | succ n' => exact ⟨n', rfl⟩
    obtain ⟨n, rfl⟩ := hn
    have en : (((n + 1 : Nat) : Int) - 1) = n := by lia
    refine hK.bite (by decide) fun v2 g0 g1 hK => ?_
    walk_at "s"
    refine hK.bite (by decide) fun v3 g2 g3 hK => ?_
    walk_at "s"
    refine (iW n rfl).use en (b := 1) (by lia) (hK.weak (BB_one _ _)) fun t1 e1 m1 ht1 _ hK => ?_
    walk_at "s"
    refine hK.bite (by decide) fun v4 g6 g7 hK => ?_
    have : v4 = 0 ∨ v4 = 1 := by lia
    rcases this with rfl | rfl
    · walk_at "s"
      exact .inl (hK.fins (.convc (by lia) (by lia) (by lia)))
    · walk_at "s"
      exact .inl (hK.fins (.convw ht1))
  · have hn : ∃ n', n = n' + 1 := by
      cases n with
      | zero => exfalso; have : v < 5 := h1; lia
      | succ n' => exact ⟨n', rfl⟩
    obtain ⟨n, rfl⟩ := hn
    have en : (((n + 1 : Nat) : Int) - 1) = n := by lia
    refine (iB n rfl).use en (b := 1) (by lia) (hK.weak (BB_one _ _)) fun t1 e1 m1 ht1 _ hK => ?_
    walk_at "s"
    refine hK.bite (by decide) fun v4 g6 g7 hK => ?_
    have : v4 = 0 ∨ v4 = 1 := by lia
    rcases this with rfl | rfl
    · walk_at "s"
      exact .inl (hK.fins (.convt ht1))
    · walk_at "s"
      exact .inl (hK.fins .nothing)
  · have hn : ∃ n', n = n' + 1 := by
      cases n with
      | zero => exfalso; have : v < 5 := h1; lia
      | succ n' => exact ⟨n', rfl⟩
    obtain ⟨n, rfl⟩ := hn
    have en : (((n + 1 : Nat) : Int) - 1) = n := by lia
    exact (iC n rfl).use rfl (b := 5) (by lia) hK fun t1 e1 m1 ht1 _ hK => .inl (hK.fins ht1)
theorem gen_all (n : Nat) : Gen 1227 (5 + 3 * n) n (AA n) n 0 ∧ Gen 1237 (5 + 3 * n) n (AA n) n 5 ∧ Gen 1244 (5 + 3 * n) n (AA n) n 4 := by
  induction n with
  | zero => exact ⟨fun k hk => genW (d := 3) (Nat.le_refl _) (fun _ h => absurd h.symm (Nat.succ_ne_zero _)) (fun _ h => absurd h.symm (Nat.succ_ne_zero _)) (fun _ h => absurd h.symm (Nat.succ_ne_zero _)) k (by lia), fun k hk => genT (d := 3) (Nat.le_refl _) (fun _ h => absurd h.symm (Nat.succ_ne_zero _)) (fun _ h => absurd h.symm (Nat.succ_ne_zero _)) k (by lia), fun k hk => genB (d := 3) (Nat.le_refl _) (fun _ h => absurd h.symm (Nat.succ_ne_zero _)) (fun _ h => absurd h.symm (Nat.succ_ne_zero _)) k (by lia)⟩
  | succ n ih =>
    obtain ⟨a, b, c⟩ := ih
    have hc := genC a b (by lia)
    exact ⟨fun k hk => genW (d := 5 + 3 * n) (by lia) (fun n' h => by cases h; exact a) (fun n' h => by cases h; exact c) (fun n' h => by cases h; exact hc) k (by lia), fun k hk => genT (d := 5 + 3 * n) (by lia) (fun n' h => by cases h; exact a) (fun n' h => by cases h; exact b) k (by lia), fun k hk => genB (d := 5 + 3 * n) (by lia) (fun n' h => by cases h; exact c) (fun n' h => by cases h; exact b) k (by lia)⟩
/-- the law's tree -/
theorem gen_law (hsc : sc.length ≤ 63) (h : ∀ t e' m', Tr 4 0 t → isCall t → 0 ≤ e' → e' ≤ 2000 → Q t (L sc e' m' rest)) : CC (k + 20) (.top 1232) [.obj 0, .int 4] (L sc 0 0 rest) ex Q :=
  genC (gen_all 3).1 (gen_all 3).2.1 (by decide) (k + 20) (by lia) _ _ _ _ _ _ ⟨⟨hsc, by decide, by decide⟩, fun t e' m' ht hc g0 g1 => h t e' m' ht hc g0 (Int.le_trans g1 (by decide))⟩
end
end
section
open PySem PySem.W PyProof.Rows PySem.Calls
noncomputable abbrev l_script : List Nat := [115, 99, 114, 105, 112, 116]
noncomputable abbrev l_loaf : List Nat := [108, 111, 97, 102]
noncomputable abbrev l_tree : List Nat := [116, 114, 101, 101]
noncomputable abbrev l_held : List Nat := [104, 101, 108, 100]
noncomputable abbrev l_memory : List Nat := [109, 101, 109, 111, 114, 121]
noncomputable abbrev l_at : List Nat := [97, 116]
noncomputable abbrev l_value : List Nat := [118, 97, 108, 117, 101]
noncomputable abbrev l_sign : List Nat := [115, 105, 103, 110]
noncomputable abbrev l_log : List Nat := [108, 111, 103]
noncomputable abbrev l_tell : List Nat := [116, 101, 108, 108]
noncomputable abbrev l_handlers : List Nat := [104, 97, 110, 100, 108, 101, 114, 115]
noncomputable abbrev l_run : List Nat := [114, 117, 110]
noncomputable abbrev l_due : List Nat := [100, 117, 101]
noncomputable abbrev l_found : List Nat := [102, 111, 117, 110, 100]
noncomputable abbrev l_told : List Nat := [116, 111, 108, 100]
noncomputable def seg1B : List XS := [.asg (.name [108, 111, 97, 102]) (.dict [([99, 101, 108, 108, 115], (.name [115, 99, 114, 105, 112, 116])), ([101, 97, 116, 101, 110], (.const (.int (0)))), ([109, 97, 114, 107], (.const (.int (0))))]), .asg (.name [116, 114, 101, 101]) (.call (.const (.con 1232)) [(.name [108, 111, 97, 102]), (.const (.int (4)))]), .asg (.name [104, 101, 108, 100]) (.dict [([73], (.bin .Sub (.call (.const (.con 1213)) [(.name [108, 111, 97, 102]), (.const (.int (40)))]) (.const (.int (20))))), ([74], (.sub (.lst [(.const (.int (7))), (.const .none)]) (.call (.const (.con 1213)) [(.name [108, 111, 97, 102]), (.const (.int (2)))]))), ([78], (.lst [(.bin .Sub (.call (.const (.con 1213)) [(.name [108, 111, 97, 102]), (.const (.int (250)))]) (.const (.int (125)))), (.const (.int (3))), (.const .none)]))]), .asg (.sub (.name [104, 101, 108, 100]) (.const (.str [83]))) (.sub (.lst [(.lst [(.const (.str [65])), (.const (.str [66])), (.const (.str [32]))]), (.lst [(.const .none), (.const .none), (.const .none)])]) (.bin .FloorDiv (.call (.const (.con 1213)) [(.name [108, 111, 97, 102]), (.const (.int (3)))]) (.const (.int (2))))), .asg (.sub (.name [104, 101, 108, 100]) (.const (.str [84]))) (.ite (.cmp (.call (.const (.con 1213)) [(.name [108, 111, 97, 102]), (.const (.int (3)))]) [.Eq] [(.const (.int (2)))]) (.bin .Add (.bcall .list [(.const (.str [65, 66, 98]))]) (.lst [(.const .none)])) (.bcall .list [(.const (.str [66, 32, 65, 66]))])), .asg (.name [109, 101, 109, 111, 114, 121]) (.call (.const (.con 1002)) [(.const (.int (5))), (.const (.int (7)))])]
noncomputable def it1X : X := (.bin .Add (.lst [(.sub (.name [104, 101, 108, 100]) (.const (.str [73]))), (.sub (.name [104, 101, 108, 100]) (.const (.str [74])))]) (.sub (.name [104, 101, 108, 100]) (.const (.str [78]))))
noncomputable def lp1B : List XS := [.ite (.cmp (.name [118, 97, 108, 117, 101]) [.IsNot] [(.const .none)]) [.expr (.meth (.name [109, 101, 109, 111, 114, 121]) (.user [115, 116, 111, 114, 101]) [(.tup [(.const (.int (0))), (.name [97, 116]), (.const (.int (0))), (.tup [])]), (.name [118, 97, 108, 117, 101])])] []]
noncomputable def it2X : X := (.bin .Add (.sub (.name [104, 101, 108, 100]) (.const (.str [83]))) (.sub (.name [104, 101, 108, 100]) (.const (.str [84]))))
noncomputable def lp2B : List XS := [.ite (.cmp (.name [115, 105, 103, 110]) [.IsNot] [(.const .none)]) [.expr (.meth (.name [109, 101, 109, 111, 114, 121]) (.user [115, 116, 111, 114, 101]) [(.tup [(.const (.int (5))), (.name [97, 116]), (.const (.int (1))), (.tup [])]), (.name [115, 105, 103, 110])])] []]
noncomputable def sA : XS := .asg (.name [104, 97, 110, 100, 108, 101, 114, 115]) (.dict [([116, 101, 108, 108], (.name [116, 101, 108, 108])), ([99, 111, 110, 115, 116], (.const (.con 1144))), ([118, 97, 114], (.const (.con 1151))), ([101, 108, 101, 109], (.const (.con 1151))), ([115, 117, 98, 115, 116, 114], (.const (.con 1151))), ([110, 101, 103], (.const (.con 1165))), ([110, 111, 116], (.const (.con 1165))), ([99, 111, 110, 118], (.const (.con 1158))), ([99, 97, 116], (.const (.con 1172))), ([105, 110, 116, 114], (.const (.con 1177)))])
noncomputable def sB : XS := .asg (.name [114, 117, 110]) (.call (.const (.con 1093)) [(.name [109, 101, 109, 111, 114, 121]), (.call (.const (.con 1195)) [(.const (.int (8))), (.const (.int (3))), (.const (.int (5))), (.const (.int (90)))]), (.dict []), (.const .none), (.name [104, 97, 110, 100, 108, 101, 114, 115]), (.dict [])])
noncomputable def sC : XS := .asg (.attr (.name [114, 117, 110]) [102, 114, 97, 109, 101]) (.bcall .dict [(.call (.const (.con 1206)) [])])
noncomputable def sD : XS := .asg (.name [100, 117, 101]) (.call (.const (.con 1265)) [(.name [116, 114, 101, 101]), (.name [104, 101, 108, 100]), (.name [108, 111, 103])])
noncomputable def seg2B : List XS := [sA, sB, sC, sD]
noncomputable def tryB : List XS := [.asg (.name [102, 111, 117, 110, 100]) (.call (.const (.con 1177)) [(.name [114, 117, 110]), (.name [116, 114, 101, 101])])]
noncomputable def endB : List XS := [.ret (.bool .And [(.cmp (.name [100, 117, 101]) [.IsNot] [(.const .none)]), (.cmp (.name [102, 111, 117, 110, 100]) [.Eq] [(.name [100, 117, 101])]), (.cmp (.name [116, 111, 108, 100]) [.Eq] [(.name [108, 111, 103])])])]
section
variable {k : Nat} {ex : St → Prop} {Q : KE} {R : KE} {N : Loc → St → Prop} {sc : List Int} {a b : AO} {rest : St}
theorem cn_sp1 {a : Addr} {args : List AV} {σ : St} (hT : T1 a = none) (h : Sp1 (CC k) (.top a) args σ ex Q) : CC (k + 1) (.top a) args σ ex Q := by
  show Cn T1 Sp1 (k + 1) (.top a) args σ ex Q
  rw [Cn_top, hT]; exact h
theorem c_mem_init (h : Q .none [a, b, .inst 1002 3, .attrs [(w_numeric, .obj 4), (w_characters, .obj 5)], .list [.none, .none, .none, .none, .none], .list [.none, .none, .none, .none, .none, .none, .none]]) : CC (k + 1) (.top 978) [.obj 2, .int 5, .int 7] [a, b, .inst 1002 3, .attrs []] ex Q := by
  refine cn_top rfl ⟨rfl, 60, ?_⟩
  walk_at "s"
  exact .inl h
theorem c_mem (h : Q (.obj 2) [a, b, .inst 1002 3, .attrs [(w_numeric, .obj 4), (w_characters, .obj 5)], .list [.none, .none, .none, .none, .none], .list [.none, .none, .none, .none, .none, .none, .none]]) : CC (k + 2) (.top 1002) [.int 5, .int 7] [a, b] ex Q := by
  refine cn_sp1 rfl ?_
  exact c_mem_init ⟨rfl, h⟩
theorem c_lim {a0 a1 a2 a3 a4 a5 a6 a7 a8 : AO} (h : Q (.obj 9) [a0, a1, a2, a3, a4, a5, a6, a7, a8, .inst 1195 10, limD]) : CC (k + 1) (.top 1195) [.int 8, .int 3, .int 5, .int 90] [a0, a1, a2, a3, a4, a5, a6, a7, a8] ex Q := by
  refine cn_sp1 rfl ?_
  refine ⟨rfl, 60, ?_⟩
  walk_at "s"
  exact .inl ⟨rfl, h⟩
theorem c_spots {σ : St} (h : Q (.obj σ.length) (σ ++ [spotD])) : CC (k + 1) (.top 1206) [] σ ex Q := by
  refine cn_top rfl ⟨rfl, 60, ?_⟩
  walk_at "s"
  exact .inl h
theorem c_run {a0 a1 a2 a3 a4 a5 a6 a7 a8 a9 a10 a11 a12 : AO} (h : Q (.obj 13) [a0, a1, a2, a3, a4, a5, a6, a7, a8, a9, a10, a11, a12, .inst 1093 14, runD 15, .dict [], .dict [], .dict [], .dict [], .list [], .dict [], .dict []]) :
    CC (k + 2) (.top 1093) [.obj 2, .obj 9, .obj 11, .none, .obj 8, .obj 12] [a0, a1, a2, a3, a4, a5, a6, a7, a8, a9, a10, a11, a12] ex Q := by
  refine cn_sp1 rfl ?_
  show CC (k + 1) (.top 1090) _ _ _ _
  refine cn_top rfl ⟨rfl, 60, ?_⟩
  conv => whnf
  repeat' (first
    | ((with_reducible refine sel_t ?_); conv => whnf)
    | ((with_reducible refine sel_f ?_); conv => whnf)
    | ((with_reducible refine And.intro ?_ ?_); (· walk_at "o"); (conv => arg 2; reduce); conv => whnf))
  exact .inl ⟨rfl, h⟩
theorem slc1 {v : Nat} {σ : St} : slcop (.str [v]) none (some (.int 1)) σ = some (.str [v]) := by
  unfold slcop
  exact guardO_pos (by simp)
theorem rep0 {v : Nat} : rep [32] (1 - ([v].length : Int)) = [] := by simp [rep]
noncomputable def memA : AO := .attrs [(w_numeric, .obj 4), (w_characters, .obj 5)]
theorem st_n {l : List AV} {cs : AO} {v : Int} (i : Nat) (hl : l.length = 5) (hi : i < 5) (hq : Q .none [a, b, .inst 1002 3, memA, .list (l.set i (.tup [.int 0, .int v])), cs]) : CC (k + 4) (.top 992) [.obj 2, .tup [.int 0, .int i, .int 0, .tup []], .int v] [a, b, .inst 1002 3, memA, .list l, cs] ex Q := by
  refine cn_top rfl ⟨rfl, 60, ?_⟩
  conv => whnf
  repeat' (first
    | ((with_reducible refine sel_d (fun h => ?_) (fun h => ?_)) <;> (first | (exfalso; lia) | (conv => whnf)))
    | (rw [rep0, List.append_nil]; conv => whnf)
    | (rw [rep0]; conv => whnf)
    | (rw [slc1]; conv => whnf)
    | ((with_reducible refine And.intro ?_ ?_); (· first | rfl | exact Nat.le_of_ble_eq_true rfl | lia | walk_at "o"); conv => whnf)
    | (refine cn_top rfl ⟨rfl, 60, ?_⟩; conv => whnf)
    | ((with_reducible refine Or.inl ?_); conv => whnf))
  exact hq
theorem st_c {l : List AV} {cs : AO} {v : Nat} (i : Nat) (hl : l.length = 7) (hi : i < 7) (hq : Q .none [a, b, .inst 1002 3, memA, cs, .list (l.set i (.str [v]))]) : CC (k + 4) (.top 992) [.obj 2, .tup [.int 5, .int i, .int 1, .tup []], .str [v]] [a, b, .inst 1002 3, memA, cs, .list l] ex Q := by
  refine cn_top rfl ⟨rfl, 60, ?_⟩
  conv => whnf
  repeat' (first
    | ((with_reducible refine sel_d (fun h => ?_) (fun h => ?_)) <;> (first | (exfalso; lia) | (exfalso; simp only [List.append_nil, List.length_singleton] at h; lia) | (conv => whnf)))
    | (rw [rep0, List.append_nil]; conv => whnf)
    | (rw [rep0]; conv => whnf)
    | (rw [slc1]; conv => whnf)
    | ((with_reducible refine And.intro ?_ ?_); (· first | rfl | exact Nat.le_of_ble_eq_true rfl | lia | walk_at "o"); conv => whnf)
    | (refine cn_top rfl ⟨rfl, 60, ?_⟩; conv => whnf)
    | ((with_reducible refine Or.inl ?_); conv => whnf))
  exact hq
end
end
section
open PySem PySem.W PyProof.Rows PySem.Calls
section
variable {k : Nat} {ex : St → Prop} {R : KE} {N : Loc → St → Prop} {sc : List Int}
noncomputable def rhoA (t : AV) (sc : List Int) : Loc := [(l_memory, .obj 2), (l_held, .obj 1), (l_tree, t), (l_loaf, .obj 0), (l_script, .lst (intL sc))]
noncomputable def sig (p : Par) (a b : AO) : St := [loafD p, heldD p, .inst 1002 3, memA, a, b]
noncomputable def no5 : AO := .list [.none, .none, .none, .none, .none]
noncomputable def no7 : AO := .list [.none, .none, .none, .none, .none, .none, .none]
theorem seg1_ev (hsc : sc.length ≤ 63) (h : ∀ p t, p.script = sc → Pok p → Tr 4 0 t → isCall t → N (rhoA t sc) (sig p no5 no7)) : evSs (CC (k + 20)) ex R 60 seg1B [(l_script, .lst (intL sc))] [] N := by
  walk_at "s"
  refine gen_law (rest := []) hsc fun t e m ht hc h0 h1 => ?_
  walk_at "s"
  refine c_bite (rest := []) hsc (by lia) (by lia) (by lia) fun i hi0 hi1 => ?_
  walk_at "s"
  refine c_bite (rest := []) hsc (by lia) (by lia) (by lia) fun j hj0 hj1 => ?_
  obtain ⟨J, hJ, hJv⟩ : ∃ J : Option Int, subop (.lst [.int 7, .none]) (.int j) (L sc (e + 1 + 1) m []) = some (intO J) ∧ ∀ x, J = some x → x = 7 := by
    rcases (by lia : j = 0 ∨ j = 1) with rfl | rfl
    · exact ⟨some 7, rfl, fun x hx => by cases hx; rfl⟩
    · exact ⟨none, rfl, fun x hx => by cases hx⟩
  rw [hJ]
  walk_at "s"
  refine c_bite (rest := []) hsc (by lia) (by lia) (by lia) fun n hn0 hn1 => ?_
  walk_at "s"
  refine c_bite (rest := [.dict [(w_I, .int (i - 20)), (w_J, intO J), (w_N, .lst [.int (n - 125), .int 3, .none])]]) hsc (by lia) (by lia) (by lia) fun s hs0 hs1 => ?_
  walk_at "s"
  obtain ⟨s0, s1, s2, hS, hSv⟩ : ∃ s0 s1 s2 : Option Nat, subop (AV.lst [AV.lst [AV.str [65], AV.str [66], AV.str [32]], AV.lst [AV.none, AV.none, AV.none]]) (AV.int (s.fdiv 2)) (L sc (e + 1 + 1 + 1 + 1) m
        [AO.dict [(w_I, AV.int (i - 20)), (w_J, intO J), (w_N, AV.lst [AV.int (n - 125), AV.int 3, AV.none])]]) = some (.lst [sgn s0, sgn s1, sgn s2]) ∧ ∀ c, some c ∈ [s0, s1, s2] → c ≤ 255 := by
    rcases (by lia : s = 0 ∨ s = 1 ∨ s = 2) with rfl | rfl | rfl
    · exact ⟨some 65, some 66, some 32, rfl, fun c hc => by simp at hc; lia⟩
    · exact ⟨some 65, some 66, some 32, rfl, fun c hc => by simp at hc; lia⟩
    · exact ⟨none, none, none, rfl, fun c hc => by simp at hc⟩
  rw [hS]
  walk_at "s"
  refine c_bite (rest := [.dict [(w_I, .int (i - 20)), (w_J, intO J), (w_N, .lst [.int (n - 125), .int 3, .none]), (w_S, .lst [sgn s0, sgn s1, sgn s2])]]) hsc (by lia) (by lia) (by lia) fun u hu0 hu1 => ?_
  walk_at "s"
  · refine c_mem (a := loafD ⟨sc, e + 1 + 1 + 1 + 1 + 1, m, i - 20, J, n - 125, s0, s1, s2, some 65, some 66, some 98, none⟩) (b := heldD ⟨sc, e + 1 + 1 + 1 + 1 + 1, m, i - 20, J, n - 125, s0, s1, s2, some 65, some 66, some 98, none⟩) ?_
    walk_at "s"
    refine h ⟨sc, e + 1 + 1 + 1 + 1 + 1, m, i - 20, J, n - 125, s0, s1, s2, some 65, some 66, some 98, none⟩ t rfl ⟨?_, ?_, ?_, ?_⟩ ht hc
    · show (i - 20).natAbs ≤ 999; lia
    · intro x hx; rw [hJv x hx]; decide
    · show (n - 125).natAbs ≤ 999; lia
    · intro b c hc
      cases b
      · refine hSv c ?_; simpa [sideL] using hc
      · simp [sideL] at hc; lia
  · refine c_mem (a := loafD ⟨sc, e + 1 + 1 + 1 + 1 + 1, m, i - 20, J, n - 125, s0, s1, s2, some 66, some 32, some 65, some 66⟩) (b := heldD ⟨sc, e + 1 + 1 + 1 + 1 + 1, m, i - 20, J, n - 125, s0, s1, s2, some 66, some 32, some 65, some 66⟩) ?_
    walk_at "s"
    refine h ⟨sc, e + 1 + 1 + 1 + 1 + 1, m, i - 20, J, n - 125, s0, s1, s2, some 66, some 32, some 65, some 66⟩ t rfl ⟨?_, ?_, ?_, ?_⟩ ht hc
    · show (i - 20).natAbs ≤ 999; lia
    · intro x hx; rw [hJv x hx]; decide
    · show (n - 125).natAbs ≤ 999; lia
    · intro b c hc
      cases b
      · refine hSv c ?_; simpa [sideL] using hc
      · simp [sideL] at hc; lia
noncomputable def LocOk (t : AV) (ρ : Loc) : Prop := look l_memory ρ = some (.obj 2) ∧ look l_held ρ = some (.obj 1) ∧ look l_tree ρ = some t ∧ look l_loaf ρ = some (.obj 0)
theorem LocOk.up {t : AV} {ρ : Loc} {x : List Nat} {v : AV} (h : LocOk t ρ) (hx : ¬ l_memory = x ∧ ¬ l_held = x ∧ ¬ l_tree = x ∧ ¬ l_loaf = x) : LocOk t ((x, v) :: ρ) := by
  obtain ⟨h1, h2, h3, h4⟩ := h
  obtain ⟨x1, x2, x3, x4⟩ := hx
  refine ⟨?_, ?_, ?_, ?_⟩ <;> (rw [look_cons, if_neg ‹_›]; assumption)
/-- one turn that stores nothing -/
theorem turn_no {t v : AV} {ρ : Loc} {σ : St} {B : List XS} {nm : List Nat} (hB : B = lp1B ∧ nm = l_value ∨ B = lp2B ∧ nm = l_sign) {K : Loc → St → Prop} (hρ : LocOk t ρ) (h : ∀ ρ', LocOk t ρ' → K ρ' σ) : evSs (CC (k + 20)) ex R 60 B ((nm, .none) :: (l_at, v) :: ρ) σ K := by
  rcases hB with ⟨rfl, rfl⟩ | ⟨rfl, rfl⟩
  · exact h _ ((hρ.up (by decide)).up (by decide))
  · exact h _ ((hρ.up (by decide)).up (by decide))
theorem turn_n {t : AV} {ρ : Loc} {a b cs : AO} {l : List AV} {v : Int} {K : Loc → St → Prop} (i : Nat) (hl : l.length = 5) (hi : i < 5) (hρ : LocOk t ρ) (h : ∀ ρ', LocOk t ρ' → K ρ' [a, b, .inst 1002 3, memA, .list (l.set i (.tup [.int 0, .int v])), cs]) : evSs (CC (k + 20)) ex R 60 lp1B ((l_value, .int v) :: (l_at, .int i) :: ρ) [a, b, .inst 1002 3, memA, .list l, cs] K := by
  have hm := (((hρ.up (x := l_at) (v := .int i) (by decide)).up (x := l_value) (v := .int v) (by decide)))
  conv => whnf
  rw [show look [109, 101, 109, 111, 114, 121] ((l_value, .int v) :: (l_at, .int i) :: ρ) = some (.obj 2) from hm.1]
  refine ⟨rfl, ?_⟩
  refine ⟨Nat.le_of_ble_eq_true rfl, ?_⟩
  refine ⟨Nat.le_of_ble_eq_true rfl, ?_⟩
  refine st_n i hl hi ?_
  exact ⟨rfl, h _ hm⟩
theorem turn_c {t : AV} {ρ : Loc} {a b cs : AO} {l : List AV} {v : Nat} {K : Loc → St → Prop} (i : Nat) (hl : l.length = 7) (hi : i < 7) (hρ : LocOk t ρ) (h : ∀ ρ', LocOk t ρ' → K ρ' [a, b, .inst 1002 3, memA, cs, .list (l.set i (.str [v]))]) : evSs (CC (k + 20)) ex R 60 lp2B ((l_sign, .str [v]) :: (l_at, .int i) :: ρ) [a, b, .inst 1002 3, memA, cs, .list l] K := by
  have hm := (((hρ.up (x := l_at) (v := .int i) (by decide)).up (x := l_sign) (v := .str [v]) (by decide)))
  conv => whnf
  rw [show look [109, 101, 109, 111, 114, 121] ((l_sign, .str [v]) :: (l_at, .int i) :: ρ) = some (.obj 2) from hm.1]
  refine ⟨rfl, ?_⟩
  refine ⟨Nat.le_of_ble_eq_true rfl, ?_⟩
  refine ⟨Nat.le_of_ble_eq_true rfl, ?_⟩
  refine st_c i hl hi ?_
  exact ⟨rfl, h _ hm⟩
end
end
section
open PySem PySem.W PyProof.Rows PySem.Calls
section
variable {k : Nat} {ex : St → Prop} {R : KE} {N : Loc → St → Prop} {sc : List Int} {p : Par} {t : AV} {ρ : Loc}
noncomputable def l1 (p : Par) : List AV := [.int p.I, intO p.J, .int p.N0, .int 3, .none]
noncomputable def l2 (p : Par) : List AV := [sgn p.s0, sgn p.s1, sgn p.s2, sgn p.t0, sgn p.t1, sgn p.t2, sgn p.t3]
noncomputable def loopK (C : Ctr) (ex : St → Prop) (R : KE) (nm : List Nat) (B : List XS) (ρ : Loc) (N : Loc → St → Prop) : KE := loopG C ex R 60 l_at nm B ρ N
theorem enm5 {a b c d f : AV} : enmL [a, b, c, d, f] = [.tup [.int 0, a], .tup [.int 1, b], .tup [.int 2, c], .tup [.int 3, d], .tup [.int 4, f]] := by simp [enmL, List.mapIdx_cons]
theorem enm7 {a b c d f g h : AV} : enmL [a, b, c, d, f, g, h] = [.tup [.int 0, a], .tup [.int 1, b], .tup [.int 2, c], .tup [.int 3, d], .tup [.int 4, f], .tup [.int 5, g], .tup [.int 6, h]] := by simp [enmL, List.mapIdx_cons]
theorem loop_c {C : Ctr} {nm : List Nat} {B : List XS} {i : Int} {v : AV} {r : List AV} {σ : St} (h : evSs C ex R 60 B ((nm, v) :: (l_at, .int i) :: ρ) σ fun ρ' σ' => loopL (enmB C ex R 60 l_at nm B) r ρ' σ' N) : loopL (enmB C ex R 60 l_at nm B) (.tup [.int i, v] :: r) ρ σ N := by
  rw [loopL_cons]
  exact h
theorem loop1_ev (hρ : LocOk t ρ) (h : ∀ ρ', LocOk t ρ' → N ρ' (sig p (numL p) no7)) : loopK (CC (k + 20)) ex R l_value lp1B ρ N (.lst (l1 p)) (sig p no5 no7) := by
  unfold loopK loopG l1
  dsimp only
  rw [enm5]
  refine loop_c (turn_n 0 rfl (by decide) hρ fun ρ1 h1 => ?_)
  cases hJ : p.J with
  | none =>
    refine loop_c (turn_no (.inl ⟨rfl, rfl⟩) h1 fun ρ2 h2 => ?_)
    refine loop_c (turn_n 2 rfl (by decide) h2 fun ρ3 h3 => ?_)
    refine loop_c (turn_n 3 rfl (by decide) h3 fun ρ4 h4 => ?_)
    refine loop_c (turn_no (.inl ⟨rfl, rfl⟩) h4 fun ρ5 h5 => ?_)
    have := h _ h5
    unfold numL at this
    rw [hJ] at this
    exact this
  | some j =>
    refine loop_c (turn_n 1 rfl (by decide) h1 fun ρ2 h2 => ?_)
    refine loop_c (turn_n 2 rfl (by decide) h2 fun ρ3 h3 => ?_)
    refine loop_c (turn_n 3 rfl (by decide) h3 fun ρ4 h4 => ?_)
    refine loop_c (turn_no (.inl ⟨rfl, rfl⟩) h4 fun ρ5 h5 => ?_)
    have := h _ h5
    unfold numL at this
    rw [hJ] at this
    exact this
theorem turn_o {a b cs : AO} {l : List AV} {c : Option Nat} {K : Loc → St → Prop} (i : Nat) (hl : l.length = 7) (hi : i < 7) (hs : l.set i .none = l) (hρ : LocOk t ρ) (h : ∀ ρ', LocOk t ρ' → K ρ' [a, b, .inst 1002 3, memA, cs, .list (l.set i (sgn c))]) : evSs (CC (k + 20)) ex R 60 lp2B ((l_sign, sgn c) :: (l_at, .int i) :: ρ) [a, b, .inst 1002 3, memA, cs, .list l] K := by
  cases c with
  | none =>
    replace h : ∀ ρ', LocOk t ρ' → K ρ' [a, b, .inst 1002 3, memA, cs, .list (l.set i .none)] := h
    rw [hs] at h
    exact turn_no (.inr ⟨rfl, rfl⟩) hρ h
  | some c => exact turn_c i hl hi hρ h
theorem loop2_ev (hρ : LocOk t ρ) (h : ∀ ρ', LocOk t ρ' → N ρ' (sig p (numL p) (chrL p))) : loopK (CC (k + 20)) ex R l_sign lp2B ρ N (.lst (l2 p)) (sig p (numL p) no7) := by
  unfold loopK loopG l2
  dsimp only
  rw [enm7]
  refine loop_c (turn_o 0 rfl (by decide) rfl hρ fun ρ1 h1 => ?_)
  refine loop_c (turn_o 1 rfl (by decide) rfl h1 fun ρ2 h2 => ?_)
  refine loop_c (turn_o 2 rfl (by decide) rfl h2 fun ρ3 h3 => ?_)
  refine loop_c (turn_o 3 rfl (by decide) rfl h3 fun ρ4 h4 => ?_)
  refine loop_c (turn_o 4 rfl (by decide) rfl h4 fun ρ5 h5 => ?_)
  refine loop_c (turn_o 5 rfl (by decide) rfl h5 fun ρ6 h6 => ?_)
  refine loop_c (turn_o 6 rfl (by decide) rfl h6 fun ρ7 h7 => ?_)
  exact h _ h7
theorem it1_ev {a b : AO} {K : KE} (hρ : LocOk t ρ) (h : K (.lst (l1 p)) (sig p a b)) : evE (CC (k + 20)) ex 60 ρ it1X (sig p a b) K := by
  have hh : look [104, 101, 108, 100] ρ = some (.obj 1) := hρ.2.1
  conv => whnf
  repeat' (first
    | (rw [hh]; conv => whnf)
    | ((with_reducible refine And.intro ?_ ?_); (· first | exact Nat.le_of_ble_eq_true rfl | rfl); conv => whnf))
  exact h
theorem it2_ev {a b : AO} {K : KE} (hρ : LocOk t ρ) (h : K (.lst (l2 p)) (sig p a b)) : evE (CC (k + 20)) ex 60 ρ it2X (sig p a b) K := by
  have hh : look [104, 101, 108, 100] ρ = some (.obj 1) := hρ.2.1
  conv => whnf
  repeat' (first
    | (rw [hh]; conv => whnf)
    | ((with_reducible refine And.intro ?_ ?_); (· first | exact Nat.le_of_ble_eq_true rfl | rfl); conv => whnf))
  exact h
end
end
section
open PySem PySem.W PyProof.Rows PySem.Calls
section
variable {k : Nat} {ex : St → Prop} {R : KE} {N : Loc → St → Prop} {sc : List Int} {p : Par} {t : AV}
noncomputable def rhoB (t : AV) : Loc := [(l_tell, .clo [.obj 7]), (l_told, .obj 7), (l_log, .obj 6), (l_memory, .obj 2), (l_held, .obj 1), (l_tree, t), (l_loaf, .obj 0)]
noncomputable def rhoC (t d : AV) : Loc := (l_due, d) :: (l_run, .obj 13) :: (l_handlers, .obj 8) :: rhoB t
theorem evSs_c {C : Ctr} {n : Nat} {st : XS} {r : List XS} {ρ : Loc} {σ : St} (h : evS C ex R n st ρ σ fun ρ' σ' => evSs C ex R n r ρ' σ' N) : evSs C ex R (n + 1) (st :: r) ρ σ N := h
theorem evSs_n {C : Ctr} {n : Nat} {ρ : Loc} {σ : St} (h : N ρ σ) : evSs C ex R (n + 1) [] ρ σ N := h
noncomputable def st8 (p : Par) : St := [loafD p, heldD p, .inst 1002 3, memA, numL p, chrL p, .list [], .list []]
noncomputable def st9 (p : Par) : St := [loafD p, heldD p, .inst 1002 3, memA, numL p, chrL p, .list [], .list [], handD]
noncomputable def stR (p : Par) : St := [loafD p, heldD p, .inst 1002 3, memA, numL p, chrL p, .list [], .list [], handD, .inst 1195 10, limD, .dict [], .dict [], .inst 1093 14, runD 15, .dict [], .dict [], .dict [], .dict [], .list [], .dict [], .dict []]
theorem sA_ev (h : N ((l_handlers, .obj 8) :: rhoB t) (st9 p)) : evS (CC (k + 20)) ex R 59 sA (rhoB t) (st8 p) N := by
  walk_at "s"
  exact h
theorem sB_ev (h : N ((l_run, .obj 13) :: (l_handlers, .obj 8) :: rhoB t) (stR p)) : evS (CC (k + 20)) ex R 58 sB ((l_handlers, .obj 8) :: rhoB t) (st9 p) N := by
  walk_at "s"
  refine c_lim (a0 := loafD p) (a1 := heldD p) (a3 := memA) (a4 := numL p) (a5 := chrL p) (a6 := .list []) (a7 := .list []) (a8 := handD) ?_
  walk_at "s"
  refine c_run (a0 := loafD p) (a1 := heldD p) (a3 := memA) (a4 := numL p) (a5 := chrL p) (a6 := .list []) (a7 := .list []) (a8 := handD) (a9 := .inst 1195 10) (a10 := limD) (a11 := .dict []) (a12 := .dict []) ?_
  walk_at "s"
  exact h
theorem sC_ev (h : N ((l_run, .obj 13) :: (l_handlers, .obj 8) :: rhoB t) (S p [] [] [])) : evS (CC (k + 20)) ex R 57 sC ((l_run, .obj 13) :: (l_handlers, .obj 8) :: rhoB t) (stR p) N := by
  walk_at "s"
  refine c_spots ?_
  walk_at "s"
  exact h
theorem sD_ev {ms : List Int} {r : Option AV} {dd : Nat} (hd : dd ≤ k + 20) (hL : LawC p t dd ms r) (hm : ms.length ≤ 1000) (h : N (rhoC t (r.getD .none)) (S p ms [] [])) : evS (CC (k + 20)) ex R 56 sD ((l_run, .obj 13) :: (l_handlers, .obj 8) :: rhoB t) (S p [] [] []) N := by
  walk_at "s"
  refine hL (k + 20) hd [] [] [] ex _ (fun a ha => by cases ha) (by simpa using hm) ?_
  rw [List.nil_append]
  exact h
theorem seg2_ev {ms : List Int} {r : Option AV} {dd : Nat} (hd : dd ≤ k + 20) (hL : LawC p t dd ms r) (hm : ms.length ≤ 1000) (h : N (rhoC t (r.getD .none)) (S p ms [] [])) : evSs (CC (k + 20)) ex R 60 seg2B (rhoB t) (sig p (numL p) (chrL p) ++ [.list [], .list []]) N :=
  evSs_c (n := 59) (sA_ev (evSs_c (n := 58) (sB_ev (evSs_c (n := 57) (sC_ev (evSs_c (n := 56) (sD_ev hd hL hm (evSs_n (n := 55) h))))))))
end
end
section
open PySem PySem.W PyProof.Rows PySem.Calls


noncomputable def hP : Program := PySem.Challenge.pw_pf0141_01
noncomputable def hS (i : Nat) : Stmt := hP.main.body.getD i (.Pass default)
noncomputable def hC (c j : Nat) : Stmt := match hS c with | .ClassDef _ _ _ b _ _ _ _ _ _ _ => b.getD j (.Pass default) | _ => .Pass default
noncomputable abbrev sS (l : List Nat) : Str := ⟨⟨l⟩⟩
noncomputable abbrev nI (n t : Nat) : Value := .int (.ofNat n) t
noncomputable abbrev tuN : Value := .type PySem.W.SL.s2766695959194262286x5
noncomputable abbrev dE (P : Params) (k : Str) (t : Nat) (v : Value) : DictEntry := ⟨PyData.keyHash P k, .str k t, v⟩
noncomputable abbrev fileN : Str := sS [47, 99, 108, 97, 105, 109, 47, 99, 117, 116, 46, 112, 121]
noncomputable def lclOf : List (Str × NameKind) → List Str
  | [] => []
  | (x, .local) :: r => x :: lclOf r
  | _ :: r => lclOf r
noncomputable def celOf : List (Str × NameKind) → List Str
  | [] => []
  | (x, .cell) :: r => x :: celOf r
  | _ :: r => celOf r
noncomputable def strsAt : List Str → Nat → List Value
  | [], _ => []
  | x :: r, t => .str x t :: strsAt r (t + 1)
/-- the seven (five) objects that a def makes: qualname, the def, address, tok, its module's name, defaults -/
noncomputable def defO (seven : Bool) (st : Stmt) (q? : Option Str) (a t : Nat) (md dv : Value) : List Obj := match st with
  | .FunctionDef nm ps bd _ _ _ sc _ _ pos =>
    let q := q?.getD nm
    let vs := if seven then lclOf sc.names else []
    let cs := if seven then celOf sc.names else []
    let nv := vs.length + cs.length
    let r := if seven then a + 4 else a + 2
    let v1 : Value := if seven then .ref (a + 2) else .none
    let v2 : Value := if seven then .ref (a + 3) else .none
    let mid : List Obj := if seven then [⟨tuN, none, .seq ⟨strsAt vs (t + 3)⟩, ⟨[]⟩⟩, ⟨tuN, none, .seq ⟨strsAt cs (t + 3 + vs.length)⟩, ⟨[]⟩⟩] else []
    ⟨tuN, none, .seq ⟨[]⟩, ⟨[]⟩⟩ :: ⟨.none, none, .fields ⟨[]⟩, ⟨[]⟩⟩ :: (mid ++
    [⟨.none, none, .func ⟨nm, q, ps, .stmts bd, sc, 0, [], .none, .none, .none, .none, none, .none, .none, 0⟩, ⟨[]⟩⟩,
     ⟨.type PySem.W.SL.s5856160107412720595x4, none, .fields ⟨[.str nm t, .str q (t + 1), .str fileN (t + 2), nI pos.line 0, nI ps.args.length 0, nI 0 0, nI 0 0, nI 3 0, .ref a, .bool true, nI 181 0, .ref (a + 1), .none, v1, v2, .ref r, nI (t + 3 + nv) 0, nI pos.line 0, .str fileN (t + 4 + nv)]⟩, ⟨[]⟩⟩,
     ⟨.type PySem.W.SL.s7174869446012820540x8, none, .func ⟨nm, q, ps, .stmts bd, sc, 3, [], dv, .none, .none, md, none, .ref (r + 1), .none, 0⟩, ⟨[]⟩⟩])
  | _ => []
noncomputable def altO (l : List Obj) : Bool → List Obj := @List.rec Obj (fun _ => Bool → List Obj) (fun _ => []) (fun x _ ih b => @Bool.rec (fun _ => List Obj) (ih true) (x :: ih false) b) l
noncomputable def mkT (n : Nat) : List Obj → BT := @Nat.rec (fun _ => List Obj → BT) (fun _ => .nil) (fun _ ih l => @List.rec Obj (fun _ => BT) .nil (fun v r _ => .node v (ih (altO r true)) (ih (altO r false))) l) n

noncomputable abbrev mN0 : Value := .str (sS [95, 95, 109, 97, 105, 110, 95, 95]) 164
noncomputable abbrev mN1 : Value := .str (sS [102, 55, 55, 46, 101, 114, 114, 111, 114, 115]) 194
noncomputable abbrev mN2 : Value := .str (sS [102, 55, 55, 46, 107, 105, 110, 100, 115]) 241
noncomputable abbrev mN3 : Value := .str (sS [102, 55, 55, 46, 114, 101, 97, 108, 115]) 262
noncomputable abbrev mN4 : Value := .str (sS [102, 55, 55, 46, 102, 117, 110, 99, 116, 105, 111, 110, 115]) 405
noncomputable abbrev mN5 : Value := .str (sS [102, 55, 55, 46, 97, 114, 99, 115]) 656
noncomputable abbrev mN6 : Value := .str (sS [102, 55, 55, 46, 99, 111, 109, 112, 108, 101, 120, 101, 115]) 820
noncomputable abbrev mN7 : Value := .str (sS [102, 55, 55, 46, 99, 102, 117, 110, 99, 116, 105, 111, 110, 115]) 838
noncomputable abbrev mN8 : Value := .str (sS [102, 55, 55, 46, 109, 97, 116, 104, 105, 110, 116, 114]) 955
noncomputable abbrev mN9 : Value := .str (sS [102, 55, 55, 46, 105, 110, 116, 115]) 1149
noncomputable abbrev mN10 : Value := .str (sS [102, 55, 55, 46, 111, 112, 101, 114, 97, 116, 101]) 1177
noncomputable abbrev mN11 : Value := .str (sS [102, 55, 55, 46, 110, 117, 109, 105, 110, 116, 114]) 1219
noncomputable abbrev mN12 : Value := .str (sS [102, 55, 55, 46, 105, 110, 116, 114, 105, 110, 115, 105, 99, 115]) 1538
noncomputable abbrev mN13 : Value := .str (sS [102, 55, 55, 46, 109, 101, 109, 111, 114, 121]) 1571
noncomputable abbrev mN14 : Value := .str (sS [102, 55, 55, 46, 112, 108, 97, 105, 110, 101, 120, 112, 114]) 1734
noncomputable abbrev mN15 : Value := .str (sS [102, 55, 55, 46, 108, 105, 109, 105, 116, 115]) 1880
noncomputable abbrev mN16 : Value := .str (sS [108, 97, 119, 95, 112, 102, 48, 49, 52, 49, 95, 48, 49]) 1933
noncomputable def hObjs (P : Params) (c38 : Obj) : List Obj :=
  [⟨(.type PySem.W.SL.s5856160107412720595x4), none, (.fields ⟨[(.str (sS [60, 109, 111, 100, 117, 108, 101, 62]) 182), (.str (sS [60, 109, 111, 100, 117, 108, 101, 62]) 183), (.str (sS [47, 99, 108, 97, 105, 109, 47, 99, 117, 116, 46, 112, 121]) 184), (nI 1 0), (nI 0 0), (nI 0 0), (nI 0 0), (nI 0 0), (.ref 11), (.bool false), (nI 181 0), (.ref 12), .none, .none, .none, .none, (nI 185 0), (nI 1 0), (.str (sS [47, 99, 108, 97, 105, 109, 47, 99, 117, 116, 46, 112, 121]) 186)]⟩), ⟨[]⟩⟩,
   ⟨(.type PySem.W.SL.s658472552662922059x5), none, Data.plain, ⟨[(some (.ref 13)), (some (.ref 3)), (some (.ref 3)), none, (some (.str (sS [95, 95, 109, 97, 105, 110, 95, 95]) 164)), none, (some (.ref 0))]⟩⟩] ++ (
  defO true (hS 0) none 15 187 mN0 .none ++ (
  [⟨(.type PySem.W.SL.s2766695959194262286x5), none, (.seq ⟨[(.type PySem.W.SL.s5946037652744460706x9)]⟩), ⟨[]⟩⟩,
   ⟨(.type PySem.W.SL.s11030030927630378310x26), none, (.fields ⟨[(.builtin PySem.W.SL.s10062305145149207511x16), (.type PySem.W.SL.s17162191345867700912x4)]⟩), ⟨[]⟩⟩,
   ⟨(.type PySem.W.SL.s14018661285674007319x4), none, (.dict ⟨[(dE P (sS [95, 95, 109, 111, 100, 117, 108, 101, 95, 95]) 203 (.str (sS [102, 55, 55, 46, 101, 114, 114, 111, 114, 115]) 194)), (dE P (sS [95, 95, 113, 117, 97, 108, 110, 97, 109, 101, 95, 95]) 205 (.str (sS [70, 55, 55, 69, 114, 114, 111, 114]) 204)), (dE P (sS [95, 95, 102, 105, 114, 115, 116, 108, 105, 110, 101, 110, 111, 95, 95]) 207 (nI 5 206)), (dE P (sS [95, 95, 105, 110, 105, 116, 95, 95]) 215 (.ref 35)), (dE P (sS [95, 95, 115, 116, 97, 116, 105, 99, 95, 97, 116, 116, 114, 105, 98, 117, 116, 101, 115, 95, 95]) 217 (.ref 36))]⟩ 5), ⟨[]⟩⟩,
   ⟨(.type PySem.W.SL.s2766695959194262286x5), none, (.seq ⟨[]⟩), ⟨[]⟩⟩,
   ⟨.none, none, (.fields ⟨[(nI 7 0), (nI 4 0), (.ref 34)]⟩), ⟨[]⟩⟩,
   ⟨(.type PySem.W.SL.s5856160107412720595x4), none, (.fields ⟨[(.str (sS [70, 55, 55, 69, 114, 114, 111, 114]) 198), (.str (sS [70, 55, 55, 69, 114, 114, 111, 114]) 199), (.str (sS [47, 99, 108, 97, 105, 109, 47, 99, 117, 116, 46, 112, 121]) 200), (nI 5 0), (nI 0 0), (nI 0 0), (nI 0 0), (nI 0 0), (.ref 25), (.bool false), (nI 181 0), (.ref 26), .none, .none, .none, .none, (nI 201 0), (nI 5 0), (.str (sS [47, 99, 108, 97, 105, 109, 47, 99, 117, 116, 46, 112, 121]) 202)]⟩), ⟨[]⟩⟩,
   ⟨(.type PySem.W.SL.s658472552662922059x5), none, Data.plain, ⟨[(some (.ref 27)), (some (.ref 3)), (some (.ref 24)), none, (some (.str (sS [102, 55, 55, 46, 101, 114, 114, 111, 114, 115]) 194)), none, (some (.ref 0))]⟩⟩] ++ (
  defO true (hC 2 0) (some (sS [70, 55, 55, 69, 114, 114, 111, 114, 46, 95, 95, 105, 110, 105, 116, 95, 95])) 29 208 mN1 .none ++ (
  [⟨(.type PySem.W.SL.s2766695959194262286x5), none, (.seq ⟨[(.str (sS [116, 101, 120, 116]) 216)]⟩), ⟨[]⟩⟩,
   ⟨(.type PySem.W.SL.s14018661285674007319x4), none, (.dict ⟨[(dE P (sS [95, 95, 109, 111, 100, 117, 108, 101, 95, 95]) 203 (.str (sS [102, 55, 55, 46, 101, 114, 114, 111, 114, 115]) 194)), (dE P (sS [95, 95, 102, 105, 114, 115, 116, 108, 105, 110, 101, 110, 111, 95, 95]) 207 (nI 5 206)), (dE P (sS [95, 95, 105, 110, 105, 116, 95, 95]) 215 (.ref 35)), (dE P (sS [95, 95, 115, 116, 97, 116, 105, 99, 95, 97, 116, 116, 114, 105, 98, 117, 116, 101, 115, 95, 95]) 217 (.ref 36)), (dE P (sS [95, 95, 119, 101, 97, 107, 114, 101, 102, 95, 95]) 219 (.ref 39)), (dE P (sS [95, 95, 100, 111, 99, 95, 95]) 220 .none)]⟩ 3), ⟨[]⟩⟩,
   c38,
   ⟨(.type PySem.W.SL.s14755015743595814543x17), none, (.fields ⟨[(.str (sS [95, 95, 119, 101, 97, 107, 114, 101, 102, 95, 95]) 218), (.ref 38), (.builtin PySem.W.SL.s10220274742760427390x26), .none]⟩), ⟨[]⟩⟩,
   ⟨(.type PySem.W.SL.s4290257624100764138x5), none, (.fields ⟨[(.ref 38), (.ref 38), (.ref 38)]⟩), ⟨[]⟩⟩,
   ⟨(.type PySem.W.SL.s11030030927630378310x26), none, (.fields ⟨[(.builtin PySem.W.SL.s4860613602091757760x24), (.ref 38)]⟩), ⟨[]⟩⟩,
   ⟨(.type PySem.W.SL.s2766695959194262286x5), none, (.seq ⟨[(.ref 38)]⟩), ⟨[]⟩⟩,
   ⟨(.type PySem.W.SL.s11030030927630378310x26), none, (.fields ⟨[(.builtin PySem.W.SL.s10062305145149207511x16), (.type PySem.W.SL.s17162191345867700912x4)]⟩), ⟨[]⟩⟩,
   ⟨(.type PySem.W.SL.s14018661285674007319x4), none, (.dict ⟨[(dE P (sS [95, 95, 109, 111, 100, 117, 108, 101, 95, 95]) 232 (.str (sS [102, 55, 55, 46, 101, 114, 114, 111, 114, 115]) 194)), (dE P (sS [95, 95, 113, 117, 97, 108, 110, 97, 109, 101, 95, 95]) 234 (.str (sS [82, 117, 110, 70, 97, 117, 108, 116]) 233)), (dE P (sS [95, 95, 102, 105, 114, 115, 116, 108, 105, 110, 101, 110, 111, 95, 95]) 236 (nI 10 235)), (dE P (sS [95, 95, 115, 116, 97, 116, 105, 99, 95, 97, 116, 116, 114, 105, 98, 117, 116, 101, 115, 95, 95]) 237 (.ref 49))]⟩ 4), ⟨[]⟩⟩,
   ⟨(.type PySem.W.SL.s2766695959194262286x5), none, (.seq ⟨[]⟩), ⟨[]⟩⟩,
   ⟨.none, none, (.fields ⟨[]⟩), ⟨[]⟩⟩,
   ⟨(.type PySem.W.SL.s5856160107412720595x4), none, (.fields ⟨[(.str (sS [82, 117, 110, 70, 97, 117, 108, 116]) 227), (.str (sS [82, 117, 110, 70, 97, 117, 108, 116]) 228), (.str (sS [47, 99, 108, 97, 105, 109, 47, 99, 117, 116, 46, 112, 121]) 229), (nI 10 0), (nI 0 0), (nI 0 0), (nI 0 0), (nI 0 0), (.ref 45), (.bool false), (nI 181 0), (.ref 46), .none, .none, .none, .none, (nI 230 0), (nI 10 0), (.str (sS [47, 99, 108, 97, 105, 109, 47, 99, 117, 116, 46, 112, 121]) 231)]⟩), ⟨[]⟩⟩,
   ⟨(.type PySem.W.SL.s658472552662922059x5), none, Data.plain, ⟨[(some (.ref 47)), (some (.ref 3)), (some (.ref 44)), none, (some (.str (sS [102, 55, 55, 46, 101, 114, 114, 111, 114, 115]) 194)), none, (some (.ref 0))]⟩⟩,
   ⟨(.type PySem.W.SL.s2766695959194262286x5), none, (.seq ⟨[]⟩), ⟨[]⟩⟩,
   ⟨(.type PySem.W.SL.s14018661285674007319x4), none, (.dict ⟨[(dE P (sS [95, 95, 109, 111, 100, 117, 108, 101, 95, 95]) 232 (.str (sS [102, 55, 55, 46, 101, 114, 114, 111, 114, 115]) 194)), (dE P (sS [95, 95, 102, 105, 114, 115, 116, 108, 105, 110, 101, 110, 111, 95, 95]) 236 (nI 10 235)), (dE P (sS [95, 95, 115, 116, 97, 116, 105, 99, 95, 97, 116, 116, 114, 105, 98, 117, 116, 101, 115, 95, 95]) 237 (.ref 49)), (dE P (sS [95, 95, 100, 111, 99, 95, 95]) 238 .none)]⟩ 2), ⟨[]⟩⟩,
   ⟨(.type PySem.W.SL.s17162191345867700912x4), none, (.cls ⟨(sS [82, 117, 110, 70, 97, 117, 108, 116]), [(.ref 38)], [(.ref 51), (.ref 38), (.type PySem.W.SL.s5946037652744460706x9), (.type PySem.W.SL.s4278001404047624695x13), (.type PySem.W.SL.s2742458400755230247x6)], 50, (sS [82, 117, 110, 70, 97, 117, 108, 116]), true, [], [], false, none, false⟩), ⟨[(some (.ref 42)), none, (some (.str (sS [82, 117, 110, 70, 97, 117, 108, 116]) 225)), (some (.str (sS [82, 117, 110, 70, 97, 117, 108, 116]) 233)), (some (.builtin PySem.W.SL.s5160863994218179198x17)), (some (.bool true))]⟩⟩,
   ⟨(.type PySem.W.SL.s4290257624100764138x5), none, (.fields ⟨[(.ref 51), (.ref 51), (.ref 51)]⟩), ⟨[]⟩⟩,
   ⟨(.type PySem.W.SL.s11030030927630378310x26), none, (.fields ⟨[(.builtin PySem.W.SL.s4860613602091757760x24), (.ref 51)]⟩), ⟨[]⟩⟩] ++ (
  defO true (hS 11) none 54 255 mN2 .none ++ (
  [⟨(.type PySem.W.SL.s2766695959194262286x5), none, (.seq ⟨[(nI 0 264), (nI 0 265)]⟩), ⟨[]⟩⟩] ++ (
  defO true (hS 14) none 62 267 mN3 .none ++ (
  defO true (hS 15) none 69 275 mN3 .none ++ (
  defO true (hS 16) none 76 283 mN3 .none ++ (
  defO true (hS 17) none 83 296 mN3 .none ++ (
  defO true (hS 18) none 90 307 mN3 .none ++ (
  defO true (hS 19) none 97 316 mN3 .none ++ (
  defO true (hS 20) none 104 324 mN3 .none ++ (
  defO true (hS 21) none 111 331 mN3 .none ++ (
  defO true (hS 22) none 118 345 mN3 .none ++ (
  defO true (hS 23) none 125 357 mN3 .none ++ (
  defO true (hS 24) none 132 369 mN3 .none ++ (
  defO true (hS 25) none 139 378 mN3 .none ++ (
  defO true (hS 26) none 146 387 mN3 .none ++ (
  defO true (hS 27) none 153 397 mN3 .none ++ (
  defO true (hS 30) none 160 409 mN4 .none ++ (
  defO true (hS 31) none 167 416 mN4 .none ++ (
  defO true (hS 32) none 174 424 mN4 .none ++ (
  defO true (hS 33) none 181 434 mN4 .none ++ (
  defO true (hS 34) none 188 443 mN4 .none ++ (
  defO true (hS 35) none 195 458 mN4 .none ++ (
  defO true (hS 36) none 202 471 mN4 .none ++ (
  defO true (hS 37) none 209 480 mN4 .none ++ (
  defO true (hS 38) none 216 489 mN4 .none ++ (
  defO true (hS 39) none 223 501 mN4 .none ++ (
  defO true (hS 40) none 230 513 mN4 .none ++ (
  defO true (hS 41) none 237 521 mN4 .none ++ (
  defO true (hS 42) none 244 533 mN4 .none ++ (
  defO true (hS 43) none 251 551 mN4 .none ++ (
  defO true (hS 44) none 258 558 mN4 .none ++ (
  defO true (hS 45) none 265 570 mN4 .none ++ (
  defO true (hS 46) none 272 583 mN4 .none ++ (
  defO true (hS 47) none 279 598 mN4 .none ++ (
  defO true (hS 48) none 286 614 mN4 .none ++ (
  defO true (hS 49) none 293 622 mN4 .none ++ (
  defO true (hS 50) none 300 633 mN4 .none ++ (
  defO true (hS 51) none 307 644 mN4 .none ++ (
  defO true (hS 53) none 314 658 mN5 .none ++ (
  defO true (hS 54) none 321 672 mN5 .none ++ (
  defO true (hS 55) none 328 682 mN5 .none ++ (
  defO true (hS 56) none 335 689 mN5 .none ++ (
  defO true (hS 57) none 342 700 mN5 .none ++ (
  defO true (hS 58) none 349 713 mN5 .none ++ (
  defO true (hS 59) none 356 726 mN5 .none ++ (
  defO true (hS 60) none 363 738 mN5 .none ++ (
  defO true (hS 61) none 370 753 mN5 .none ++ (
  defO true (hS 62) none 377 762 mN5 .none ++ (
  defO true (hS 63) none 384 774 mN5 .none ++ (
  defO true (hS 64) none 391 782 mN5 .none ++ (
  defO true (hS 65) none 398 795 mN5 .none ++ (
  defO true (hS 66) none 405 807 mN5 .none ++ (
  defO true (hS 68) none 412 822 mN6 .none ++ (
  defO true (hS 69) none 419 831 mN6 .none ++ (
  defO true (hS 72) none 426 842 mN7 .none ++ (
  defO true (hS 73) none 433 849 mN7 .none ++ (
  defO true (hS 74) none 440 856 mN7 .none ++ (
  defO true (hS 75) none 447 863 mN7 .none ++ (
  defO true (hS 76) none 454 870 mN7 .none ++ (
  defO true (hS 77) none 461 879 mN7 .none ++ (
  defO true (hS 78) none 468 897 mN7 .none ++ (
  defO true (hS 79) none 475 911 mN7 .none ++ (
  defO true (hS 80) none 482 920 mN7 .none ++ (
  defO true (hS 81) none 489 929 mN7 .none ++ (
  defO true (hS 82) none 496 942 mN7 .none ++ (
  defO true (hS 84) none 503 957 mN8 .none ++ (
  defO true (hS 85) none 510 966 mN8 .none ++ (
  defO true (hS 86) none 517 975 mN8 .none ++ (
  defO true (hS 87) none 524 984 mN8 .none ++ (
  defO true (hS 88) none 531 993 mN8 .none ++ (
  defO true (hS 89) none 538 1002 mN8 .none ++ (
  defO true (hS 90) none 545 1011 mN8 .none ++ (
  defO true (hS 91) none 552 1020 mN8 .none ++ (
  defO true (hS 92) none 559 1029 mN8 .none ++ (
  defO true (hS 93) none 566 1038 mN8 .none ++ (
  defO true (hS 94) none 573 1047 mN8 .none ++ (
  defO true (hS 95) none 580 1056 mN8 .none ++ (
  defO true (hS 96) none 587 1065 mN8 .none ++ (
  defO true (hS 97) none 594 1074 mN8 .none ++ (
  defO true (hS 98) none 601 1083 mN8 .none ++ (
  defO true (hS 99) none 608 1089 mN8 .none ++ (
  defO true (hS 100) none 615 1098 mN8 .none ++ (
  defO true (hS 101) none 622 1107 mN8 .none ++ (
  defO true (hS 102) none 629 1116 mN8 .none ++ (
  defO true (hS 103) none 636 1125 mN8 .none ++ (
  defO true (hS 104) none 643 1134 mN8 .none ++ (
  defO true (hS 105) none 650 1143 mN8 .none ++ (
  defO true (hS 107) none 657 1151 mN9 .none ++ (
  defO true (hS 108) none 664 1160 mN9 .none ++ (
  defO true (hS 109) none 671 1169 mN9 .none ++ (
  defO true (hS 111) none 678 1179 mN10 .none ++ (
  defO true (hS 112) none 685 1188 mN10 .none ++ (
  defO true (hS 113) none 692 1198 mN10 .none ++ (
  defO true (hS 114) none 699 1209 mN10 .none ++ (
  defO true (hS 117) none 706 1223 mN11 .none ++ (
  defO true (hS 118) none 713 1233 mN11 .none ++ (
  defO true (hS 119) none 720 1242 mN11 .none ++ (
  defO true (hS 120) none 727 1251 mN11 .none ++ (
  defO true (hS 121) none 734 1260 mN11 .none ++ (
  defO true (hS 122) none 741 1269 mN11 .none ++ (
  defO true (hS 123) none 748 1278 mN11 .none ++ (
  defO true (hS 124) none 755 1287 mN11 .none ++ (
  defO true (hS 125) none 762 1296 mN11 .none ++ (
  defO true (hS 126) none 769 1305 mN11 .none ++ (
  defO true (hS 127) none 776 1314 mN11 .none ++ (
  defO true (hS 128) none 783 1328 mN11 .none ++ (
  defO true (hS 129) none 790 1340 mN11 .none ++ (
  defO true (hS 130) none 797 1349 mN11 .none ++ (
  defO true (hS 131) none 804 1360 mN11 .none ++ (
  defO true (hS 132) none 811 1371 mN11 .none ++ (
  defO true (hS 133) none 818 1382 mN11 .none ++ (
  defO true (hS 134) none 825 1391 mN11 .none ++ (
  defO true (hS 135) none 832 1400 mN11 .none ++ (
  defO true (hS 136) none 839 1409 mN11 .none ++ (
  defO true (hS 137) none 846 1418 mN11 .none ++ (
  defO true (hS 138) none 853 1427 mN11 .none ++ (
  defO true (hS 139) none 860 1436 mN11 .none ++ (
  defO true (hS 140) none 867 1445 mN11 .none ++ (
  defO true (hS 141) none 874 1454 mN11 .none ++ (
  defO true (hS 142) none 881 1460 mN11 .none ++ (
  defO true (hS 143) none 888 1469 mN11 .none ++ (
  defO true (hS 144) none 895 1478 mN11 .none ++ (
  defO true (hS 145) none 902 1487 mN11 .none ++ (
  defO true (hS 146) none 909 1496 mN11 .none ++ (
  defO true (hS 147) none 916 1505 mN11 .none ++ (
  defO true (hS 148) none 923 1514 mN11 .none ++ (
  defO true (hS 149) none 930 1523 mN11 .none ++ (
  defO true (hS 150) none 937 1532 mN11 .none ++ (
  defO true (hS 152) none 944 1540 mN12 .none ++ (
  defO true (hS 153) none 951 1549 mN12 .none ++ (
  defO true (hS 154) none 958 1561 mN12 .none ++ (
  [⟨(.type PySem.W.SL.s2766695959194262286x5), none, (.seq ⟨[]⟩), ⟨[]⟩⟩,
   ⟨(.type PySem.W.SL.s11030030927630378310x26), none, (.fields ⟨[(.builtin PySem.W.SL.s10062305145149207511x16), (.type PySem.W.SL.s17162191345867700912x4)]⟩), ⟨[]⟩⟩,
   ⟨(.type PySem.W.SL.s14018661285674007319x4), none, (.dict ⟨[(dE P (sS [95, 95, 109, 111, 100, 117, 108, 101, 95, 95]) 1582 (.str (sS [102, 55, 55, 46, 109, 101, 109, 111, 114, 121]) 1571)), (dE P (sS [95, 95, 113, 117, 97, 108, 110, 97, 109, 101, 95, 95]) 1584 (.str (sS [77, 101, 109, 111, 114, 121]) 1583)), (dE P (sS [95, 95, 102, 105, 114, 115, 116, 108, 105, 110, 101, 110, 111, 95, 95]) 1586 (nI 618 1585)), (dE P (sS [95, 95, 105, 110, 105, 116, 95, 95]) 1595 (.ref 978)), (dE P (sS [108, 111, 97, 100]) 1603 (.ref 985)), (dE P (sS [115, 116, 111, 114, 101]) 1612 (.ref 992)), (dE P (sS [117, 110, 100, 101, 102, 105, 110, 101]) 1620 (.ref 999)), (dE P (sS [95, 95, 115, 116, 97, 116, 105, 99, 95, 97, 116, 116, 114, 105, 98, 117, 116, 101, 115, 95, 95]) 1623 (.ref 1000))]⟩ 8), ⟨[]⟩⟩,
   ⟨(.type PySem.W.SL.s2766695959194262286x5), none, (.seq ⟨[]⟩), ⟨[]⟩⟩,
   ⟨.none, none, (.fields ⟨[(nI 620 0), (nI 4 0), (.ref 977), (nI 624 0), (nI 4 0), (.ref 984), (nI 629 0), (nI 4 0), (.ref 991), (nI 635 0), (nI 4 0), (.ref 998)]⟩), ⟨[]⟩⟩,
   ⟨(.type PySem.W.SL.s5856160107412720595x4), none, (.fields ⟨[(.str (sS [77, 101, 109, 111, 114, 121]) 1577), (.str (sS [77, 101, 109, 111, 114, 121]) 1578), (.str (sS [47, 99, 108, 97, 105, 109, 47, 99, 117, 116, 46, 112, 121]) 1579), (nI 618 0), (nI 0 0), (nI 0 0), (nI 0 0), (nI 0 0), (.ref 968), (.bool false), (nI 181 0), (.ref 969), .none, .none, .none, .none, (nI 1580 0), (nI 618 0), (.str (sS [47, 99, 108, 97, 105, 109, 47, 99, 117, 116, 46, 112, 121]) 1581)]⟩), ⟨[]⟩⟩,
   ⟨(.type PySem.W.SL.s658472552662922059x5), none, Data.plain, ⟨[(some (.ref 970)), (some (.ref 3)), (some (.ref 967)), none, (some (.str (sS [102, 55, 55, 46, 109, 101, 109, 111, 114, 121]) 1571)), none, (some (.ref 0))]⟩⟩] ++ (
  defO true (hC 157 0) (some (sS [77, 101, 109, 111, 114, 121, 46, 95, 95, 105, 110, 105, 116, 95, 95])) 972 1587 mN13 .none ++ (
  defO true (hC 157 1) (some (sS [77, 101, 109, 111, 114, 121, 46, 108, 111, 97, 100])) 979 1596 mN13 .none ++ (
  defO true (hC 157 2) (some (sS [77, 101, 109, 111, 114, 121, 46, 115, 116, 111, 114, 101])) 986 1604 mN13 .none ++ (
  defO true (hC 157 3) (some (sS [77, 101, 109, 111, 114, 121, 46, 117, 110, 100, 101, 102, 105, 110, 101])) 993 1613 mN13 .none ++ (
  [⟨(.type PySem.W.SL.s2766695959194262286x5), none, (.seq ⟨[(.str (sS [99, 104, 97, 114, 97, 99, 116, 101, 114, 115]) 1621), (.str (sS [110, 117, 109, 101, 114, 105, 99]) 1622)]⟩), ⟨[]⟩⟩,
   ⟨(.type PySem.W.SL.s14018661285674007319x4), none, (.dict ⟨[(dE P (sS [95, 95, 109, 111, 100, 117, 108, 101, 95, 95]) 1582 (.str (sS [102, 55, 55, 46, 109, 101, 109, 111, 114, 121]) 1571)), (dE P (sS [95, 95, 102, 105, 114, 115, 116, 108, 105, 110, 101, 110, 111, 95, 95]) 1586 (nI 618 1585)), (dE P (sS [95, 95, 105, 110, 105, 116, 95, 95]) 1595 (.ref 978)), (dE P (sS [108, 111, 97, 100]) 1603 (.ref 985)), (dE P (sS [115, 116, 111, 114, 101]) 1612 (.ref 992)), (dE P (sS [117, 110, 100, 101, 102, 105, 110, 101]) 1620 (.ref 999)), (dE P (sS [95, 95, 115, 116, 97, 116, 105, 99, 95, 97, 116, 116, 114, 105, 98, 117, 116, 101, 115, 95, 95]) 1623 (.ref 1000)), (dE P (sS [95, 95, 100, 105, 99, 116, 95, 95]) 1625 (.ref 1003)), (dE P (sS [95, 95, 119, 101, 97, 107, 114, 101, 102, 95, 95]) 1627 (.ref 1004)), (dE P (sS [95, 95, 100, 111, 99, 95, 95]) 1628 .none)]⟩ 4), ⟨[]⟩⟩,
   ⟨(.type PySem.W.SL.s17162191345867700912x4), none, (.cls ⟨(sS [77, 101, 109, 111, 114, 121]), [(.type PySem.W.SL.s2742458400755230247x6)], [(.ref 1002), (.type PySem.W.SL.s2742458400755230247x6)], 1001, (sS [77, 101, 109, 111, 114, 121]), true, [], [], false, none, false⟩), ⟨[none, none, (some (.str (sS [77, 101, 109, 111, 114, 121]) 1575)), (some (.str (sS [77, 101, 109, 111, 114, 121]) 1583)), (some (.builtin PySem.W.SL.s11443829558043349243x14)), (some (.bool true))]⟩⟩,
   ⟨(.type PySem.W.SL.s14755015743595814543x17), none, (.fields ⟨[(.str (sS [95, 95, 100, 105, 99, 116, 95, 95]) 1624), (.ref 1002), (.builtin PySem.W.SL.s6511155373996960695x17), (.builtin PySem.W.SL.s12411053484034534018x21)]⟩), ⟨[]⟩⟩,
   ⟨(.type PySem.W.SL.s14755015743595814543x17), none, (.fields ⟨[(.str (sS [95, 95, 119, 101, 97, 107, 114, 101, 102, 95, 95]) 1626), (.ref 1002), (.builtin PySem.W.SL.s10220274742760427390x26), .none]⟩), ⟨[]⟩⟩,
   ⟨(.type PySem.W.SL.s4290257624100764138x5), none, (.fields ⟨[(.ref 1002), (.ref 1002), (.ref 1002)]⟩), ⟨[]⟩⟩,
   ⟨(.type PySem.W.SL.s11030030927630378310x26), none, (.fields ⟨[(.builtin PySem.W.SL.s4860613602091757760x24), (.ref 1002)]⟩), ⟨[]⟩⟩] ++ (
  defO true (hS 158) none 1007 1631 mN13 .none ++ (
  defO true (hS 159) none 1014 1640 mN13 .none ++ (
  defO true (hS 160) none 1021 1650 mN13 .none ++ (
  defO true (hS 161) none 1028 1660 mN13 .none ++ (
  defO true (hS 162) none 1035 1670 mN13 .none ++ (
  defO true (hS 163) none 1042 1680 mN13 .none ++ (
  defO true (hS 164) none 1049 1690 mN13 .none ++ (
  defO true (hS 165) none 1056 1698 mN13 .none ++ (
  defO true (hS 166) none 1063 1706 mN13 .none ++ (
  defO true (hS 167) none 1070 1723 mN13 .none ++ (
  [⟨(.type PySem.W.SL.s2766695959194262286x5), none, (.seq ⟨[]⟩), ⟨[]⟩⟩,
   ⟨(.type PySem.W.SL.s11030030927630378310x26), none, (.fields ⟨[(.builtin PySem.W.SL.s10062305145149207511x16), (.type PySem.W.SL.s17162191345867700912x4)]⟩), ⟨[]⟩⟩,
   ⟨(.type PySem.W.SL.s14018661285674007319x4), none, (.dict ⟨[(dE P (sS [95, 95, 109, 111, 100, 117, 108, 101, 95, 95]) 1743 (.str (sS [102, 55, 55, 46, 112, 108, 97, 105, 110, 101, 120, 112, 114]) 1734)), (dE P (sS [95, 95, 113, 117, 97, 108, 110, 97, 109, 101, 95, 95]) 1745 (.str (sS [82, 117, 110]) 1744)), (dE P (sS [95, 95, 102, 105, 114, 115, 116, 108, 105, 110, 101, 110, 111, 95, 95]) 1747 (nI 699 1746)), (dE P (sS [95, 95, 105, 110, 105, 116, 95, 95]) 1760 (.ref 1090)), (dE P (sS [95, 95, 115, 116, 97, 116, 105, 99, 95, 97, 116, 116, 114, 105, 98, 117, 116, 101, 115, 95, 95]) 1777 (.ref 1091))]⟩ 5), ⟨[]⟩⟩,
   ⟨(.type PySem.W.SL.s2766695959194262286x5), none, (.seq ⟨[]⟩), ⟨[]⟩⟩,
   ⟨.none, none, (.fields ⟨[(nI 701 0), (nI 4 0), (.ref 1089)]⟩), ⟨[]⟩⟩,
   ⟨(.type PySem.W.SL.s5856160107412720595x4), none, (.fields ⟨[(.str (sS [82, 117, 110]) 1738), (.str (sS [82, 117, 110]) 1739), (.str (sS [47, 99, 108, 97, 105, 109, 47, 99, 117, 116, 46, 112, 121]) 1740), (nI 699 0), (nI 0 0), (nI 0 0), (nI 0 0), (nI 0 0), (.ref 1080), (.bool false), (nI 181 0), (.ref 1081), .none, .none, .none, .none, (nI 1741 0), (nI 699 0), (.str (sS [47, 99, 108, 97, 105, 109, 47, 99, 117, 116, 46, 112, 121]) 1742)]⟩), ⟨[]⟩⟩,
   ⟨(.type PySem.W.SL.s658472552662922059x5), none, Data.plain, ⟨[(some (.ref 1082)), (some (.ref 3)), (some (.ref 1079)), none, (some (.str (sS [102, 55, 55, 46, 112, 108, 97, 105, 110, 101, 120, 112, 114]) 1734)), none, (some (.ref 0))]⟩⟩] ++ (
  defO true (hC 169 0) (some (sS [82, 117, 110, 46, 95, 95, 105, 110, 105, 116, 95, 95])) 1084 1748 mN14 .none ++ (
  [⟨(.type PySem.W.SL.s2766695959194262286x5), none, (.seq ⟨[(.str (sS [97, 99, 116, 105, 118, 101]) 1761), (.str (sS [99, 108, 101, 97, 114, 115]) 1762), (.str (sS [100, 101, 112, 116, 104]) 1763), (.str (sS [101, 120, 112, 114, 101, 115, 115, 105, 111, 110, 115]) 1764), (.str (sS [102, 108, 111, 119, 115]) 1765), (.str (sS [102, 114, 97, 109, 101]) 1766), (.str (sS [108, 105, 98, 114, 97, 114, 121]) 1767), (.str (sS [108, 105, 109, 105, 116, 115]) 1768), (.str (sS [108, 111, 111, 112, 115]) 1769), (.str (sS [109, 101, 109, 111, 114, 121]) 1770), (.str (sS [111, 112, 101, 114, 97, 116, 105, 111, 110, 115]) 1771), (.str (sS [112, 108, 97, 99, 101, 115]) 1772), (.str (sS [115, 116, 97, 116, 101, 109, 101, 110, 116, 115]) 1773), (.str (sS [115, 116, 101, 112, 115]) 1774), (.str (sS [117, 110, 105, 116, 115]) 1775), (.str (sS [119, 111, 114, 108, 100]) 1776)]⟩), ⟨[]⟩⟩,
   ⟨(.type PySem.W.SL.s14018661285674007319x4), none, (.dict ⟨[(dE P (sS [95, 95, 109, 111, 100, 117, 108, 101, 95, 95]) 1743 (.str (sS [102, 55, 55, 46, 112, 108, 97, 105, 110, 101, 120, 112, 114]) 1734)), (dE P (sS [95, 95, 102, 105, 114, 115, 116, 108, 105, 110, 101, 110, 111, 95, 95]) 1747 (nI 699 1746)), (dE P (sS [95, 95, 105, 110, 105, 116, 95, 95]) 1760 (.ref 1090)), (dE P (sS [95, 95, 115, 116, 97, 116, 105, 99, 95, 97, 116, 116, 114, 105, 98, 117, 116, 101, 115, 95, 95]) 1777 (.ref 1091)), (dE P (sS [95, 95, 100, 105, 99, 116, 95, 95]) 1779 (.ref 1094)), (dE P (sS [95, 95, 119, 101, 97, 107, 114, 101, 102, 95, 95]) 1781 (.ref 1095)), (dE P (sS [95, 95, 100, 111, 99, 95, 95]) 1782 .none)]⟩ 4), ⟨[]⟩⟩,
   ⟨(.type PySem.W.SL.s17162191345867700912x4), none, (.cls ⟨(sS [82, 117, 110]), [(.type PySem.W.SL.s2742458400755230247x6)], [(.ref 1093), (.type PySem.W.SL.s2742458400755230247x6)], 1092, (sS [82, 117, 110]), true, [], [], false, none, false⟩), ⟨[none, none, (some (.str (sS [82, 117, 110]) 1736)), (some (.str (sS [82, 117, 110]) 1744)), (some (.builtin PySem.W.SL.s11443829558043349243x14)), (some (.bool true))]⟩⟩,
   ⟨(.type PySem.W.SL.s14755015743595814543x17), none, (.fields ⟨[(.str (sS [95, 95, 100, 105, 99, 116, 95, 95]) 1778), (.ref 1093), (.builtin PySem.W.SL.s6511155373996960695x17), (.builtin PySem.W.SL.s12411053484034534018x21)]⟩), ⟨[]⟩⟩,
   ⟨(.type PySem.W.SL.s14755015743595814543x17), none, (.fields ⟨[(.str (sS [95, 95, 119, 101, 97, 107, 114, 101, 102, 95, 95]) 1780), (.ref 1093), (.builtin PySem.W.SL.s10220274742760427390x26), .none]⟩), ⟨[]⟩⟩,
   ⟨(.type PySem.W.SL.s4290257624100764138x5), none, (.fields ⟨[(.ref 1093), (.ref 1093), (.ref 1093)]⟩), ⟨[]⟩⟩,
   ⟨(.type PySem.W.SL.s11030030927630378310x26), none, (.fields ⟨[(.builtin PySem.W.SL.s4860613602091757760x24), (.ref 1093)]⟩), ⟨[]⟩⟩] ++ (
  defO true (hS 170) none 1098 1785 mN14 .none ++ (
  defO true (hS 171) none 1105 1793 mN14 .none ++ (
  defO true (hS 172) none 1112 1802 mN14 .none ++ (
  defO true (hS 173) none 1119 1810 mN14 .none ++ (
  defO false (hS 174) none 1126 1820 mN14 .none ++ (
  defO true (hS 175) none 1131 1826 mN14 .none ++ (
  defO true (hS 176) none 1138 1833 mN14 .none ++ (
  defO true (hS 177) none 1145 1841 mN14 .none ++ (
  defO true (hS 178) none 1152 1849 mN14 .none ++ (
  defO true (hS 179) none 1159 1857 mN14 .none ++ (
  defO true (hS 180) none 1166 1865 mN14 .none ++ (
  defO false (hS 181) none 1173 1874 mN14 .none ++ (
  [⟨(.type PySem.W.SL.s2766695959194262286x5), none, (.seq ⟨[]⟩), ⟨[]⟩⟩,
   ⟨(.type PySem.W.SL.s11030030927630378310x26), none, (.fields ⟨[(.builtin PySem.W.SL.s10062305145149207511x16), (.type PySem.W.SL.s17162191345867700912x4)]⟩), ⟨[]⟩⟩,
   ⟨(.type PySem.W.SL.s14018661285674007319x4), none, (.dict ⟨[(dE P (sS [95, 95, 109, 111, 100, 117, 108, 101, 95, 95]) 1889 (.str (sS [102, 55, 55, 46, 108, 105, 109, 105, 116, 115]) 1880)), (dE P (sS [95, 95, 113, 117, 97, 108, 110, 97, 109, 101, 95, 95]) 1891 (.str (sS [76, 105, 109, 105, 116, 115]) 1890)), (dE P (sS [95, 95, 102, 105, 114, 115, 116, 108, 105, 110, 101, 110, 111, 95, 95]) 1893 (nI 761 1892)), (dE P (sS [95, 95, 105, 110, 105, 116, 95, 95]) 1916 (.ref 1192)), (dE P (sS [95, 95, 115, 116, 97, 116, 105, 99, 95, 97, 116, 116, 114, 105, 98, 117, 116, 101, 115, 95, 95]) 1925 (.ref 1193))]⟩ 5), ⟨[]⟩⟩,
   ⟨(.type PySem.W.SL.s2766695959194262286x5), none, (.seq ⟨[]⟩), ⟨[]⟩⟩,
   ⟨.none, none, (.fields ⟨[(nI 763 0), (nI 4 0), (.ref 1191)]⟩), ⟨[]⟩⟩,
   ⟨(.type PySem.W.SL.s5856160107412720595x4), none, (.fields ⟨[(.str (sS [76, 105, 109, 105, 116, 115]) 1884), (.str (sS [76, 105, 109, 105, 116, 115]) 1885), (.str (sS [47, 99, 108, 97, 105, 109, 47, 99, 117, 116, 46, 112, 121]) 1886), (nI 761 0), (nI 0 0), (nI 0 0), (nI 0 0), (nI 0 0), (.ref 1181), (.bool false), (nI 181 0), (.ref 1182), .none, .none, .none, .none, (nI 1887 0), (nI 761 0), (.str (sS [47, 99, 108, 97, 105, 109, 47, 99, 117, 116, 46, 112, 121]) 1888)]⟩), ⟨[]⟩⟩,
   ⟨(.type PySem.W.SL.s658472552662922059x5), none, Data.plain, ⟨[(some (.ref 1183)), (some (.ref 3)), (some (.ref 1180)), none, (some (.str (sS [102, 55, 55, 46, 108, 105, 109, 105, 116, 115]) 1880)), none, (some (.ref 0))]⟩⟩,
   ⟨(.type PySem.W.SL.s2766695959194262286x5), none, (.seq ⟨[(nI 32 1894), (nI 7 1895), (nI 15 1896), (nI 38 1897), (nI 1000000 1898), (nI 19 1899), (nI 72 1900), (nI 40 1901)]⟩), ⟨[]⟩⟩] ++ (
  defO true (hC 183 0) (some (sS [76, 105, 109, 105, 116, 115, 46, 95, 95, 105, 110, 105, 116, 95, 95])) 1186 1902 mN15 (.ref 1185) ++ (
  [⟨(.type PySem.W.SL.s2766695959194262286x5), none, (.seq ⟨[(.str (sS [99, 111, 108, 117, 109, 110, 115]) 1917), (.str (sS [99, 111, 110, 116, 105, 110, 117, 97, 116, 105, 111, 110, 115]) 1918), (.str (sS [100, 101, 112, 116, 104]) 1919), (.str (sS [100, 111, 117, 98, 108, 101, 95, 100, 105, 103, 105, 116, 115]) 1920), (.str (sS [114, 101, 97, 108, 95, 100, 105, 103, 105, 116, 115]) 1921), (.str (sS [115, 116, 101, 112, 115]) 1922), (.str (sS [116, 111, 112, 95, 101, 120, 112, 111, 110, 101, 110, 116]) 1923), (.str (sS [119, 105, 100, 116, 104]) 1924)]⟩), ⟨[]⟩⟩,
   ⟨(.type PySem.W.SL.s14018661285674007319x4), none, (.dict ⟨[(dE P (sS [95, 95, 109, 111, 100, 117, 108, 101, 95, 95]) 1889 (.str (sS [102, 55, 55, 46, 108, 105, 109, 105, 116, 115]) 1880)), (dE P (sS [95, 95, 102, 105, 114, 115, 116, 108, 105, 110, 101, 110, 111, 95, 95]) 1893 (nI 761 1892)), (dE P (sS [95, 95, 105, 110, 105, 116, 95, 95]) 1916 (.ref 1192)), (dE P (sS [95, 95, 115, 116, 97, 116, 105, 99, 95, 97, 116, 116, 114, 105, 98, 117, 116, 101, 115, 95, 95]) 1925 (.ref 1193)), (dE P (sS [95, 95, 100, 105, 99, 116, 95, 95]) 1927 (.ref 1196)), (dE P (sS [95, 95, 119, 101, 97, 107, 114, 101, 102, 95, 95]) 1929 (.ref 1197)), (dE P (sS [95, 95, 100, 111, 99, 95, 95]) 1930 .none)]⟩ 4), ⟨[]⟩⟩,
   ⟨(.type PySem.W.SL.s17162191345867700912x4), none, (.cls ⟨(sS [76, 105, 109, 105, 116, 115]), [(.type PySem.W.SL.s2742458400755230247x6)], [(.ref 1195), (.type PySem.W.SL.s2742458400755230247x6)], 1194, (sS [76, 105, 109, 105, 116, 115]), true, [], [], false, none, false⟩), ⟨[none, none, (some (.str (sS [76, 105, 109, 105, 116, 115]) 1882)), (some (.str (sS [76, 105, 109, 105, 116, 115]) 1890)), (some (.builtin PySem.W.SL.s11443829558043349243x14)), (some (.bool true))]⟩⟩,
   ⟨(.type PySem.W.SL.s14755015743595814543x17), none, (.fields ⟨[(.str (sS [95, 95, 100, 105, 99, 116, 95, 95]) 1926), (.ref 1195), (.builtin PySem.W.SL.s6511155373996960695x17), (.builtin PySem.W.SL.s12411053484034534018x21)]⟩), ⟨[]⟩⟩,
   ⟨(.type PySem.W.SL.s14755015743595814543x17), none, (.fields ⟨[(.str (sS [95, 95, 119, 101, 97, 107, 114, 101, 102, 95, 95]) 1928), (.ref 1195), (.builtin PySem.W.SL.s10220274742760427390x26), .none]⟩), ⟨[]⟩⟩,
   ⟨(.type PySem.W.SL.s4290257624100764138x5), none, (.fields ⟨[(.ref 1195), (.ref 1195), (.ref 1195)]⟩), ⟨[]⟩⟩,
   ⟨(.type PySem.W.SL.s11030030927630378310x26), none, (.fields ⟨[(.builtin PySem.W.SL.s4860613602091757760x24), (.ref 1195)]⟩), ⟨[]⟩⟩] ++ (
  defO true (hS 185) none 1200 1935 mN16 .none ++ (
  defO true (hS 186) none 1207 1941 mN16 .none ++ (
  defO true (hS 187) none 1214 1949 mN16 .none ++ (
  defO true (hS 188) none 1221 1958 mN16 .none ++ (
  defO false (hS 189) none 1228 1969 mN16 .none ++ (
  defO false (hS 190) none 1233 1975 mN16 .none ++ (
  defO true (hS 191) none 1238 1981 mN16 .none ++ (
  defO true (hS 192) none 1245 1991 mN16 .none ++ (
  defO true (hS 193) none 1252 1998 mN16 .none ++ (
  defO true (hS 194) none 1259 2012 mN16 .none ++ (
  defO true (hS 195) none 1266 2030 mN16 .none ++ (
  defO true (hS 196) none 1273 2045 mN16 .none)))))))))))))))))))))))))))))))))))))))))))))))))))))))))))))))))))))))))))))))))))))))))))))))))))))))))))))))))))))))))))))))))))))))))))))))))))))))))))))))))))))))))))))))))))))
noncomputable def c38a : Obj := ⟨(.type PySem.W.SL.s17162191345867700912x4), none, (.cls ⟨(sS [70, 55, 55, 69, 114, 114, 111, 114]), [(.type PySem.W.SL.s5946037652744460706x9)], [(.ref 38), (.type PySem.W.SL.s5946037652744460706x9), (.type PySem.W.SL.s4278001404047624695x13), (.type PySem.W.SL.s2742458400755230247x6)], 37, (sS [70, 55, 55, 69, 114, 114, 111, 114]), true, [], [], false, none, false⟩), ⟨[(some (.ref 22)), none, (some (.str (sS [70, 55, 55, 69, 114, 114, 111, 114]) 196)), (some (.str (sS [70, 55, 55, 69, 114, 114, 111, 114]) 204)), (some (.builtin PySem.W.SL.s5160863994218179198x17)), (some (.bool true))]⟩⟩
noncomputable def c38b : Obj := ⟨(.type PySem.W.SL.s17162191345867700912x4), none, (.cls ⟨(sS [70, 55, 55, 69, 114, 114, 111, 114]), [(.type PySem.W.SL.s5946037652744460706x9)], [(.ref 38), (.type PySem.W.SL.s5946037652744460706x9), (.type PySem.W.SL.s4278001404047624695x13), (.type PySem.W.SL.s2742458400755230247x6)], 37, (sS [70, 55, 55, 69, 114, 114, 111, 114]), true, [], [(.ref 51)], false, none, false⟩), ⟨[(some (.ref 22)), none, (some (.str (sS [70, 55, 55, 69, 114, 114, 111, 114]) 196)), (some (.str (sS [70, 55, 55, 69, 114, 114, 111, 114]) 204)), (some (.builtin PySem.W.SL.s5160863994218179198x17)), (some (.bool true))]⟩⟩
noncomputable def gEs (P : Params) : List DictEntry :=
  [(dE P (sS [95, 95, 100, 111, 99, 95, 95]) 166 .none),
   (dE P (sS [95, 95, 112, 97, 99, 107, 97, 103, 101, 95, 95]) 167 .none),
   (dE P (sS [95, 95, 108, 111, 97, 100, 101, 114, 95, 95]) 168 (.builtin PySem.W.SL.s7097527257260152453x26)),
   (dE P (sS [95, 95, 115, 112, 101, 99, 95, 95]) 169 .none),
   (dE P (sS [95, 95, 97, 110, 110, 111, 116, 97, 116, 105, 111, 110, 115, 95, 95]) 170 (.ref 6)),
   (dE P (sS [95, 95, 98, 117, 105, 108, 116, 105, 110, 115, 95, 95]) 171 (.ref 4)),
   (dE P (sS [95, 95, 102, 105, 108, 101, 95, 95]) 173 (.str (sS [47, 99, 108, 97, 105, 109, 47, 99, 117, 116, 46, 112, 121]) 172)),
   (dE P (sS [95, 95, 99, 97, 99, 104, 101, 100, 95, 95]) 174 .none),
   (dE P (sS [95, 119, 97, 108, 108]) 193 (.ref 21)),
   (dE P (sS [70, 55, 55, 69, 114, 114, 111, 114]) 224 (.ref 38)),
   (dE P (sS [82, 117, 110, 70, 97, 117, 108, 116]) 240 (.ref 51)),
   (dE P (sS [73, 78, 84, 69, 71, 69, 82]) 244 (nI 0 243)),
   (dE P (sS [82, 69, 65, 76]) 246 (nI 1 245)),
   (dE P (sS [68, 79, 85, 66, 76, 69]) 248 (nI 2 247)),
   (dE P (sS [67, 79, 77, 80, 76, 69, 88]) 250 (nI 3 249)),
   (dE P (sS [76, 79, 71, 73, 67, 65, 76]) 252 (nI 4 251)),
   (dE P (sS [67, 72, 65, 82, 65, 67, 84, 69, 82]) 254 (nI 5 253)),
   (dE P (sS [117, 110, 105, 116, 115, 95, 111, 102]) 261 (.ref 60)),
   (dE P (sS [78, 79, 85, 71, 72, 84]) 266 (.ref 61)),
   (dE P (sS [99, 111, 117, 110, 116, 95, 100, 105, 103, 105, 116, 115]) 274 (.ref 68)),
   (dE P (sS [115, 116, 114, 105, 112, 95, 122, 101, 114, 111, 115]) 282 (.ref 75)),
   (dE P (sS [114, 111, 117, 110, 100, 95, 100, 105, 103, 105, 116, 115]) 295 (.ref 82)),
   (dE P (sS [114, 111, 117, 110, 100, 95, 114, 101, 97, 108]) 306 (.ref 89)),
   (dE P (sS [101, 120, 97, 99, 116, 95, 97, 100, 100]) 315 (.ref 96)),
   (dE P (sS [101, 120, 97, 99, 116, 95, 109, 117, 108]) 323 (.ref 103)),
   (dE P (sS [114, 101, 97, 108, 95, 110, 101, 103]) 330 (.ref 110)),
   (dE P (sS [113, 117, 111, 116, 105, 101, 110, 116]) 344 (.ref 117)),
   (dE P (sS [114, 101, 97, 108, 95, 115, 117, 98]) 356 (.ref 124)),
   (dE P (sS [114, 101, 97, 108, 95, 100, 105, 118]) 368 (.ref 131)),
   (dE P (sS [114, 101, 97, 108, 95, 99, 111, 109, 112, 97, 114, 101]) 377 (.ref 138)),
   (dE P (sS [114, 101, 97, 108, 95, 111, 102, 95, 105, 110, 116]) 386 (.ref 145)),
   (dE P (sS [114, 101, 97, 108, 95, 116, 111, 95, 105, 110, 116]) 396 (.ref 152)),
   (dE P (sS [100, 105, 103, 105, 116, 115, 95, 111, 102]) 404 (.ref 159)),
   (dE P (sS [83, 80, 65, 82, 69]) 408 (nI 10 407)),
   (dE P (sS [108, 101, 97, 100, 95, 111, 102]) 415 (.ref 166)),
   (dE P (sS [112, 108, 97, 99, 101, 115, 95, 102, 111, 114]) 423 (.ref 173)),
   (dE P (sS [102, 105, 120, 101, 100]) 433 (.ref 180)),
   (dE P (sS [119, 104, 111, 108, 101, 95, 114, 111, 111, 116]) 442 (.ref 187)),
   (dE P (sS [115, 113, 114, 116, 95, 114, 101, 97, 108]) 457 (.ref 194)),
   (dE P (sS [105, 110, 118, 101, 114, 115, 101, 95, 115, 101, 114, 105, 101, 115]) 470 (.ref 201)),
   (dE P (sS [108, 111, 103, 95, 111, 102, 95, 116, 101, 110]) 479 (.ref 208)),
   (dE P (sS [104, 97, 108, 102, 95, 116, 117, 114, 110]) 488 (.ref 215)),
   (dE P (sS [101, 120, 112, 95, 102, 105, 120, 101, 100]) 500 (.ref 222)),
   (dE P (sS [101, 120, 112, 95, 112, 97, 114, 116, 115]) 512 (.ref 229)),
   (dE P (sS [105, 115, 95, 116, 111, 111, 95, 103, 114, 101, 97, 116]) 520 (.ref 236)),
   (dE P (sS [101, 120, 112, 95, 114, 101, 97, 108]) 532 (.ref 243)),
   (dE P (sS [108, 111, 103, 95, 112, 97, 114, 116, 115]) 550 (.ref 250)),
   (dE P (sS [99, 104, 101, 99, 107, 95, 112, 111, 115, 105, 116, 105, 118, 101]) 557 (.ref 257)),
   (dE P (sS [108, 111, 103, 95, 114, 101, 97, 108]) 569 (.ref 264)),
   (dE P (sS [108, 111, 103, 49, 48, 95, 114, 101, 97, 108]) 582 (.ref 271)),
   (dE P (sS [119, 97, 118, 101, 95, 102, 105, 120, 101, 100]) 597 (.ref 278)),
   (dE P (sS [119, 97, 118, 101]) 613 (.ref 285)),
   (dE P (sS [105, 115, 95, 116, 105, 110, 121]) 621 (.ref 292)),
   (dE P (sS [115, 105, 110, 95, 114, 101, 97, 108]) 632 (.ref 299)),
   (dE P (sS [99, 111, 115, 95, 114, 101, 97, 108]) 643 (.ref 306)),
   (dE P (sS [116, 97, 110, 95, 114, 101, 97, 108]) 655 (.ref 313)),
   (dE P (sS [97, 114, 99, 95, 102, 105, 120, 101, 100]) 671 (.ref 320)),
   (dE P (sS [114, 97, 116, 105, 111, 95, 97, 110, 103, 108, 101]) 681 (.ref 327)),
   (dE P (sS [105, 115, 95, 98, 101, 121, 111, 110, 100, 95, 111, 110, 101]) 688 (.ref 334)),
   (dE P (sS [97, 114, 99, 95, 112, 97, 114, 116, 115]) 699 (.ref 341)),
   (dE P (sS [97, 115, 105, 110, 95, 114, 101, 97, 108]) 712 (.ref 348)),
   (dE P (sS [97, 99, 111, 115, 95, 114, 101, 97, 108]) 725 (.ref 355)),
   (dE P (sS [115, 116, 114, 97, 105, 103, 104, 116, 95, 97, 110, 103, 108, 101]) 737 (.ref 362)),
   (dE P (sS [97, 116, 97, 110, 50, 95, 114, 101, 97, 108]) 752 (.ref 369)),
   (dE P (sS [97, 116, 97, 110, 95, 114, 101, 97, 108]) 761 (.ref 376)),
   (dE P (sS [101, 120, 112, 95, 112, 97, 105, 114]) 773 (.ref 383)),
   (dE P (sS [99, 104, 101, 99, 107, 95, 103, 114, 101, 97, 116]) 781 (.ref 390)),
   (dE P (sS [115, 105, 110, 104, 95, 114, 101, 97, 108]) 794 (.ref 397)),
   (dE P (sS [99, 111, 115, 104, 95, 114, 101, 97, 108]) 806 (.ref 404)),
   (dE P (sS [116, 97, 110, 104, 95, 114, 101, 97, 108]) 819 (.ref 411)),
   (dE P (sS [114, 111, 117, 110, 100, 95, 112, 97, 114, 116, 115]) 830 (.ref 418)),
   (dE P (sS [99, 111, 109, 112, 108, 101, 120, 95, 110, 101, 103]) 837 (.ref 425)),
   (dE P (sS [77, 79, 82, 69]) 841 (nI 10 840)),
   (dE P (sS [119, 105, 100, 101, 95, 116, 111, 112]) 848 (.ref 432)),
   (dE P (sS [115, 105, 122, 101, 95, 115, 113, 117, 97, 114, 101]) 855 (.ref 439)),
   (dE P (sS [105, 115, 95, 110, 111, 117, 103, 104, 116]) 862 (.ref 446)),
   (dE P (sS [104, 97, 108, 118, 101, 100]) 869 (.ref 453)),
   (dE P (sS [99, 111, 109, 112, 108, 101, 120, 95, 97, 98, 115]) 878 (.ref 460)),
   (dE P (sS [99, 111, 109, 112, 108, 101, 120, 95, 115, 113, 114, 116]) 896 (.ref 467)),
   (dE P (sS [99, 111, 109, 112, 108, 101, 120, 95, 101, 120, 112]) 910 (.ref 474)),
   (dE P (sS [108, 111, 103, 95, 98, 111, 116, 104]) 919 (.ref 481)),
   (dE P (sS [99, 111, 109, 112, 108, 101, 120, 95, 108, 111, 103]) 928 (.ref 488)),
   (dE P (sS [99, 111, 109, 112, 108, 101, 120, 95, 115, 105, 110]) 941 (.ref 495)),
   (dE P (sS [99, 111, 109, 112, 108, 101, 120, 95, 99, 111, 115]) 954 (.ref 502)),
   (dE P (sS [114, 111, 111, 116, 95, 118, 97, 108, 117, 101]) 965 (.ref 509)),
   (dE P (sS [101, 120, 112, 95, 118, 97, 108, 117, 101]) 974 (.ref 516)),
   (dE P (sS [108, 111, 103, 95, 118, 97, 108, 117, 101]) 983 (.ref 523)),
   (dE P (sS [108, 111, 103, 49, 48, 95, 118, 97, 108, 117, 101]) 992 (.ref 530)),
   (dE P (sS [115, 105, 110, 95, 118, 97, 108, 117, 101]) 1001 (.ref 537)),
   (dE P (sS [99, 111, 115, 95, 118, 97, 108, 117, 101]) 1010 (.ref 544)),
   (dE P (sS [116, 97, 110, 95, 118, 97, 108, 117, 101]) 1019 (.ref 551)),
   (dE P (sS [97, 115, 105, 110, 95, 118, 97, 108, 117, 101]) 1028 (.ref 558)),
   (dE P (sS [97, 99, 111, 115, 95, 118, 97, 108, 117, 101]) 1037 (.ref 565)),
   (dE P (sS [97, 116, 97, 110, 95, 118, 97, 108, 117, 101]) 1046 (.ref 572)),
   (dE P (sS [97, 116, 97, 110, 50, 95, 118, 97, 108, 117, 101]) 1055 (.ref 579)),
   (dE P (sS [115, 105, 110, 104, 95, 118, 97, 108, 117, 101]) 1064 (.ref 586)),
   (dE P (sS [99, 111, 115, 104, 95, 118, 97, 108, 117, 101]) 1073 (.ref 593)),
   (dE P (sS [116, 97, 110, 104, 95, 118, 97, 108, 117, 101]) 1082 (.ref 600)),
   (dE P (sS [109, 97, 116, 104, 95, 111, 112, 101, 114, 97, 116, 105, 111, 110, 115]) 1088 (.ref 607)),
   (dE P (sS [99, 111, 109, 112, 108, 101, 120, 95, 115, 105, 122, 101]) 1097 (.ref 614)),
   (dE P (sS [99, 111, 109, 112, 108, 101, 120, 95, 114, 111, 111, 116]) 1106 (.ref 621)),
   (dE P (sS [99, 111, 109, 112, 108, 101, 120, 95, 101, 120, 112, 95, 118, 97, 108, 117, 101]) 1115 (.ref 628)),
   (dE P (sS [99, 111, 109, 112, 108, 101, 120, 95, 108, 111, 103, 95, 118, 97, 108, 117, 101]) 1124 (.ref 635)),
   (dE P (sS [99, 111, 109, 112, 108, 101, 120, 95, 115, 105, 110, 95, 118, 97, 108, 117, 101]) 1133 (.ref 642)),
   (dE P (sS [99, 111, 109, 112, 108, 101, 120, 95, 99, 111, 115, 95, 118, 97, 108, 117, 101]) 1142 (.ref 649)),
   (dE P (sS [99, 111, 109, 112, 108, 101, 120, 95, 111, 112, 101, 114, 97, 116, 105, 111, 110, 115]) 1148 (.ref 656)),
   (dE P (sS [102, 105, 116, 95, 105, 110, 116]) 1159 (.ref 663)),
   (dE P (sS [99, 117, 116, 95, 113, 117, 111, 116, 105, 101, 110, 116]) 1168 (.ref 670)),
   (dE P (sS [111, 114, 100, 101, 114, 95, 111, 102]) 1176 (.ref 677)),
   (dE P (sS [99, 111, 108, 108, 97, 116, 101]) 1187 (.ref 684)),
   (dE P (sS [117, 110, 97, 114, 121]) 1197 (.ref 691)),
   (dE P (sS [114, 101, 97, 108, 95, 97, 115]) 1208 (.ref 698)),
   (dE P (sS [99, 111, 110, 118, 101, 114, 116]) 1218 (.ref 705)),
   (dE P (sS [83, 73, 71, 78, 83]) 1222 (nI 256 1221)),
   (dE P (sS [104, 97, 108, 102, 95, 117, 112]) 1232 (.ref 712)),
   (dE P (sS [97, 115, 95, 105, 110, 116]) 1241 (.ref 719)),
   (dE P (sS [97, 115, 95, 114, 101, 97, 108]) 1250 (.ref 726)),
   (dE P (sS [97, 115, 95, 100, 111, 117, 98, 108, 101]) 1259 (.ref 733)),
   (dE P (sS [97, 115, 95, 99, 111, 109, 112, 108, 101, 120]) 1268 (.ref 740)),
   (dE P (sS [115, 97, 109, 101, 95, 99, 111, 109, 112, 108, 101, 120]) 1277 (.ref 747)),
   (dE P (sS [99, 117, 116, 95, 114, 101, 97, 108]) 1286 (.ref 754)),
   (dE P (sS [110, 101, 97, 114, 95, 114, 101, 97, 108]) 1295 (.ref 761)),
   (dE P (sS [110, 101, 97, 114, 95, 105, 110, 116]) 1304 (.ref 768)),
   (dE P (sS [119, 105, 116, 104, 111, 117, 116, 95, 115, 105, 103, 110]) 1313 (.ref 775)),
   (dE P (sS [114, 101, 115, 116, 95, 111, 102]) 1327 (.ref 782)),
   (dE P (sS [119, 105, 116, 104, 95, 115, 105, 103, 110]) 1339 (.ref 789)),
   (dE P (sS [99, 111, 109, 112, 97, 114, 101, 95, 110, 117, 109, 98, 101, 114, 115]) 1348 (.ref 796)),
   (dE P (sS [100, 105, 102, 102, 101, 114, 101, 110, 99, 101]) 1359 (.ref 803)),
   (dE P (sS [100, 111, 117, 98, 108, 101, 95, 112, 114, 111, 100, 117, 99, 116]) 1370 (.ref 810)),
   (dE P (sS [101, 120, 116, 114, 101, 109, 101]) 1381 (.ref 817)),
   (dE P (sS [103, 114, 101, 97, 116, 101, 115, 116]) 1390 (.ref 824)),
   (dE P (sS [108, 101, 97, 115, 116]) 1399 (.ref 831)),
   (dE P (sS [103, 114, 101, 97, 116, 101, 115, 116, 95, 97, 115, 95, 114, 101, 97, 108]) 1408 (.ref 838)),
   (dE P (sS [108, 101, 97, 115, 116, 95, 97, 115, 95, 114, 101, 97, 108]) 1417 (.ref 845)),
   (dE P (sS [103, 114, 101, 97, 116, 101, 115, 116, 95, 97, 115, 95, 105, 110, 116]) 1426 (.ref 852)),
   (dE P (sS [108, 101, 97, 115, 116, 95, 97, 115, 95, 105, 110, 116]) 1435 (.ref 859)),
   (dE P (sS [115, 101, 99, 111, 110, 100, 95, 112, 97, 114, 116]) 1444 (.ref 866)),
   (dE P (sS [99, 111, 110, 106, 117, 103, 97, 116, 101]) 1453 (.ref 873)),
   (dE P (sS [110, 117, 109, 98, 101, 114, 95, 111, 112, 101, 114, 97, 116, 105, 111, 110, 115]) 1459 (.ref 880)),
   (dE P (sS [99, 111, 100, 101, 95, 111, 102]) 1468 (.ref 887)),
   (dE P (sS [115, 105, 103, 110, 95, 111, 102, 95, 99, 111, 100, 101]) 1477 (.ref 894)),
   (dE P (sS [108, 101, 110, 103, 116, 104, 95, 111, 102]) 1486 (.ref 901)),
   (dE P (sS [112, 108, 97, 99, 101, 95, 111, 102, 95, 116, 101, 120, 116]) 1495 (.ref 908)),
   (dE P (sS [105, 115, 95, 110, 111, 116, 95, 98, 101, 108, 111, 119]) 1504 (.ref 915)),
   (dE P (sS [105, 115, 95, 97, 98, 111, 118, 101]) 1513 (.ref 922)),
   (dE P (sS [105, 115, 95, 110, 111, 116, 95, 97, 98, 111, 118, 101]) 1522 (.ref 929)),
   (dE P (sS [105, 115, 95, 98, 101, 108, 111, 119]) 1531 (.ref 936)),
   (dE P (sS [116, 101, 120, 116, 95, 111, 112, 101, 114, 97, 116, 105, 111, 110, 115]) 1537 (.ref 943)),
   (dE P (sS [97, 108, 108, 95, 105, 110, 116, 114, 105, 110, 115, 105, 99, 115]) 1548 (.ref 950)),
   (dE P (sS [118, 97, 108, 117, 101, 95, 98, 121]) 1560 (.ref 957)),
   (dE P (sS [105, 110, 116, 114, 105, 110, 115, 105, 99, 95, 118, 97, 108, 117, 101]) 1570 (.ref 964)),
   (dE P (sS [83, 69, 67, 79, 78, 68]) 1574 (nI 6 1573)),
   (dE P (sS [77, 101, 109, 111, 114, 121]) 1630 (.ref 1002)),
   (dE P (sS [110, 101, 101, 100, 95, 117, 110, 105, 116, 115]) 1639 (.ref 1013)),
   (dE P (sS [114, 101, 97, 100, 95, 99, 101, 108, 108]) 1649 (.ref 1020)),
   (dE P (sS [108, 111, 97, 100, 95, 110, 117, 109, 98, 101, 114]) 1659 (.ref 1027)),
   (dE P (sS [115, 116, 111, 114, 101, 95, 110, 117, 109, 98, 101, 114]) 1669 (.ref 1034)),
   (dE P (sS [108, 111, 97, 100, 95, 116, 101, 120, 116]) 1679 (.ref 1041)),
   (dE P (sS [115, 116, 111, 114, 101, 95, 116, 101, 120, 116]) 1689 (.ref 1048)),
   (dE P (sS [112, 97, 100]) 1697 (.ref 1055)),
   (dE P (sS [117, 110, 105, 116, 95, 115, 105, 122, 101]) 1705 (.ref 1062)),
   (dE P (sS [101, 108, 101, 109, 101, 110, 116, 95, 112, 108, 97, 99, 101]) 1722 (.ref 1069)),
   (dE P (sS [115, 117, 98, 95, 112, 108, 97, 99, 101]) 1733 (.ref 1076)),
   (dE P (sS [82, 117, 110]) 1784 (.ref 1093)),
   (dE P (sS [101, 118, 97, 108, 117, 97, 116, 101]) 1792 (.ref 1104)),
   (dE P (sS [110, 97, 109, 101, 100, 95, 112, 108, 97, 99, 101]) 1801 (.ref 1111)),
   (dE P (sS [98, 111, 117, 110, 100, 95, 111, 102]) 1809 (.ref 1118)),
   (dE P (sS [112, 97, 114, 116, 95, 112, 108, 97, 99, 101]) 1819 (.ref 1125)),
   (dE P (sS [112, 108, 97, 99, 101, 95, 111, 102]) 1825 (.ref 1130)),
   (dE P (sS [104, 97, 115, 95, 112, 108, 97, 99, 101]) 1832 (.ref 1137)),
   (dE P (sS [101, 118, 97, 108, 95, 99, 111, 110, 115, 116]) 1840 (.ref 1144)),
   (dE P (sS [101, 118, 97, 108, 95, 112, 108, 97, 99, 101]) 1848 (.ref 1151)),
   (dE P (sS [101, 118, 97, 108, 95, 99, 111, 110, 118]) 1856 (.ref 1158)),
   (dE P (sS [101, 118, 97, 108, 95, 117, 110, 97, 114, 121]) 1864 (.ref 1165)),
   (dE P (sS [101, 118, 97, 108, 95, 99, 97, 116]) 1873 (.ref 1172)),
   (dE P (sS [101, 118, 97, 108, 95, 105, 110, 116, 114]) 1879 (.ref 1177)),
   (dE P (sS [76, 105, 109, 105, 116, 115]) 1932 (.ref 1195)),
   (dE P (sS [95, 108, 97, 119, 95, 115, 112, 111, 116, 115]) 1940 (.ref 1206)),
   (dE P (sS [95, 108, 97, 119, 95, 98, 105, 116, 101]) 1948 (.ref 1213)),
   (dE P (sS [95, 108, 97, 119, 95, 116, 111, 108, 100]) 1957 (.ref 1220)),
   (dE P (sS [95, 108, 97, 119, 95, 119, 104, 111, 108, 101]) 1968 (.ref 1227)),
   (dE P (sS [95, 108, 97, 119, 95, 99, 97, 108, 108]) 1974 (.ref 1232)),
   (dE P (sS [95, 108, 97, 119, 95, 116, 101, 120, 116]) 1980 (.ref 1237)),
   (dE P (sS [95, 108, 97, 119, 95, 116, 114, 117, 116, 104]) 1990 (.ref 1244)),
   (dE P (sS [95, 108, 97, 119, 95, 107, 101, 112, 116]) 1997 (.ref 1251)),
   (dE P (sS [95, 108, 97, 119, 95, 112, 97, 114, 116]) 2011 (.ref 1258)),
   (dE P (sS [95, 108, 97, 119, 95, 118, 97, 108, 117, 101]) 2029 (.ref 1265)),
   (dE P (sS [95, 108, 97, 119, 95, 102, 117, 110, 99, 116, 105, 111, 110]) 2044 (.ref 1272)),
   (dE P (sS [108, 97, 119]) 2065 (.ref 1279))]
noncomputable def gOb (P : Params) (nmv : Value) (n : Nat) : Obj := ⟨.type PySem.W.SL.s14018661285674007319x4, none, .dict ⟨dE P (sS [95, 95, 110, 97, 109, 101, 95, 95]) 165 nmv :: (gEs P).take n⟩ (n + 1), ⟨[]⟩⟩
noncomputable def triOf : List (Nat × Nat) → List Value
  | [] => []
  | (a, b) :: r => nI a 0 :: nI 0 0 :: .ref b :: triOf r
noncomputable def pEs : List (Nat × Nat) := [(1, 20), (5, 27), (10, 47), (19, 59), (27, 67), (37, 74), (44, 81), (54, 88), (62, 95), (69, 102), (71, 109), (73, 116), (80, 123), (83, 130), (88, 137), (93, 144), (95, 151), (101, 158), (105, 165), (107, 172), (109, 179), (115, 186), (124, 193), (137, 200), (148, 207), (152, 214), (156, 221), (166, 228), (172, 235), (174, 242), (183, 249), (200, 256), (203, 263), (207, 270), (212, 277), (225, 284), (234, 291), (236, 298), (241, 305), (246, 312), (255, 319), (269, 326), (274, 333), (278, 340), (285, 347), (291, 354), (297, 361), (301, 368), (318, 375), (320, 382), (324, 389), (327, 396), (334, 403), (340, 410), (349, 417), (351, 424), (355, 431), (357, 438), (359, 445), (361, 452), (363, 459), (365, 466), (380, 473), (387, 480), (391, 487), (393, 494), (399, 501), (406, 508), (408, 515), (410, 522), (412, 529), (414, 536), (416, 543), (418, 550), (420, 557), (422, 564), (424, 571), (426, 578), (428, 585), (430, 592), (432, 599), (434, 606), (436, 613), (438, 620), (440, 627), (442, 634), (444, 641), (446, 648), (448, 655), (451, 662), (456, 669), (459, 676), (464, 683), (467, 690), (477, 697), (484, 704), (498, 711), (502, 718), (504, 725), (506, 732), (508, 739), (510, 746), (512, 753), (514, 760), (516, 767), (518, 774), (522, 781), (534, 788), (540, 795), (544, 802), (551, 809), (554, 816), (560, 823), (562, 830), (564, 837), (566, 844), (568, 851), (570, 858), (572, 865), (574, 872), (576, 879), (578, 886), (582, 893), (586, 900), (588, 907), (590, 914), (592, 921), (594, 928), (596, 935), (598, 942), (601, 949), (607, 956), (614, 963), (618, 970), (637, 1012), (640, 1019), (645, 1026), (653, 1033), (662, 1040), (668, 1047), (672, 1054), (674, 1061), (678, 1068), (692, 1075), (699, 1082), (718, 1103), (722, 1110), (727, 1117), (731, 1124), (735, 1129), (742, 1136), (744, 1143), (746, 1150), (748, 1157), (750, 1164), (752, 1171), (755, 1176), (761, 1183), (773, 1205), (775, 1212), (780, 1219), (783, 1226), (801, 1231), (811, 1236), (826, 1243), (834, 1250), (836, 1257), (847, 1264), (885, 1271), (916, 1278)]
noncomputable def pOb (n : Nat) : Obj := ⟨.none, none, .fields ⟨triOf (pEs.take n)⟩, ⟨[]⟩⟩
/-- the heap with n objects, of which entry 3 binds g names and entry 12 says p places -/
noncomputable def o2b (P : Params) : Obj := ⟨.none, none, (.dict ⟨[(dE P (sS [116, 121, 112, 101, 46, 95, 95, 115, 117, 98, 99, 108, 97, 115, 115, 101, 115, 95, 95, 46, 69, 120, 99, 101, 112, 116, 105, 111, 110, 46, 48]) 221 (nI 38 0)), (dE P (sS [116, 121, 112, 101, 46, 95, 95, 115, 117, 98, 99, 108, 97, 115, 115, 101, 115, 95, 95, 46, 69, 120, 99, 101, 112, 116, 105, 111, 110, 46, 110]) 222 (nI 1 0))]⟩ 2), ⟨[]⟩⟩
noncomputable def hTree (P : Params) (o2 o3 o12 c38 : Obj) (n : Nat) : BT := mkT 12 (PySem.W.boot_o_0 P :: PySem.W.boot_o_1 P :: o2 :: o3 :: PySem.W.boot_o_4 P :: PySem.W.boot_o_5 P :: PySem.W.boot_o_6 P :: PySem.W.boot_o_7 P :: PySem.W.boot_o_8 P :: PySem.W.boot_o_9 P :: PySem.W.boot_o_10 P :: ⟨(.type PySem.W.SL.s2766695959194262286x5), none, (.seq ⟨[]⟩), ⟨[]⟩⟩ :: o12 :: (hObjs P c38).take n)
noncomputable def hT0 (P : Params) : BT := hTree P (PySem.W.boot_o_2 P) (PySem.W.boot_o_3 P) (pOb 0) c38b 2
noncomputable def hT1 (P : Params) : BT := hTree P (o2b P) (gOb P (.str (sS [102, 55, 55, 46, 101, 114, 114, 111, 114, 115]) 194) 10) (pOb 2) c38a 29
noncomputable def hT2 (P : Params) : BT := hTree P (o2b P) (gOb P (.str (sS [102, 55, 55, 46, 114, 101, 97, 108, 115]) 262) 21) (pOb 6) c38b 63
noncomputable def hT3 (P : Params) : BT := hTree P (o2b P) (gOb P (.str (sS [102, 55, 55, 46, 102, 117, 110, 99, 116, 105, 111, 110, 115]) 405) 33) (pOb 18) c38b 147
noncomputable def hT4 (P : Params) : BT := hTree P (o2b P) (gOb P (.str (sS [102, 55, 55, 46, 102, 117, 110, 99, 116, 105, 111, 110, 115]) 405) 46) (pOb 30) c38b 231
noncomputable def hT5 (P : Params) : BT := hTree P (o2b P) (gOb P (.str (sS [102, 55, 55, 46, 97, 114, 99, 115]) 656) 57) (pOb 41) c38b 308
noncomputable def hT6 (P : Params) : BT := hTree P (o2b P) (gOb P (.str (sS [102, 55, 55, 46, 97, 114, 99, 115]) 656) 69) (pOb 53) c38b 392
noncomputable def hT7 (P : Params) : BT := hTree P (o2b P) (gOb P (.str (sS [102, 55, 55, 46, 99, 102, 117, 110, 99, 116, 105, 111, 110, 115]) 838) 81) (pOb 64) c38b 469
noncomputable def hT8 (P : Params) : BT := hTree P (o2b P) (gOb P (.str (sS [102, 55, 55, 46, 109, 97, 116, 104, 105, 110, 116, 114]) 955) 93) (pOb 76) c38b 553
noncomputable def hT9 (P : Params) : BT := hTree P (o2b P) (gOb P (.str (sS [102, 55, 55, 46, 109, 97, 116, 104, 105, 110, 116, 114]) 955) 106) (pOb 89) c38b 644
noncomputable def hT10 (P : Params) : BT := hTree P (o2b P) (gOb P (.str (sS [102, 55, 55, 46, 110, 117, 109, 105, 110, 116, 114]) 1219) 118) (pOb 100) c38b 721
noncomputable def hT11 (P : Params) : BT := hTree P (o2b P) (gOb P (.str (sS [102, 55, 55, 46, 110, 117, 109, 105, 110, 116, 114]) 1219) 130) (pOb 112) c38b 805
noncomputable def hT12 (P : Params) : BT := hTree P (o2b P) (gOb P (.str (sS [102, 55, 55, 46, 110, 117, 109, 105, 110, 116, 114]) 1219) 143) (pOb 125) c38b 896
noncomputable def hT13 (P : Params) : BT := hTree P (o2b P) (gOb P (.str (sS [102, 55, 55, 46, 109, 101, 109, 111, 114, 121]) 1571) 152) (pOb 133) c38b 952
noncomputable def hT14 (P : Params) : BT := hTree P (o2b P) (gOb P (.str (sS [102, 55, 55, 46, 109, 101, 109, 111, 114, 121]) 1571) 155) (pOb 136) c38b 1008
noncomputable def hT15 (P : Params) : BT := hTree P (o2b P) (gOb P (.str (sS [102, 55, 55, 46, 112, 108, 97, 105, 110, 101, 120, 112, 114]) 1734) 163) (pOb 144) c38b 1064
noncomputable def hT16 (P : Params) : BT := hTree P (o2b P) (gOb P (.str (sS [102, 55, 55, 46, 112, 108, 97, 105, 110, 101, 120, 112, 114]) 1734) 169) (pOb 150) c38b 1118
noncomputable def hT17 (P : Params) : BT := hTree P (o2b P) (gOb P (.str (sS [102, 55, 55, 46, 108, 105, 109, 105, 116, 115]) 1880) 176) (pOb 157) c38b 1165
noncomputable def hT18 (P : Params) : BT := hTree P (o2b P) (gOb P (.str (sS [108, 97, 119, 95, 112, 102, 48, 49, 52, 49, 95, 48, 49]) 1933) 181) (pOb 162) c38b 1215
noncomputable def hT19 (P : Params) : BT := hTree P (o2b P) (gOb P (.str (sS [108, 97, 119, 95, 112, 102, 48, 49, 52, 49, 95, 48, 49]) 1933) 189) (pOb 170) c38b 1267
noncomputable def hEnv : Env := { scope := hP.main.scope, locals := mainNs, globals := mainNs, cells := [], code := .ref 13, frame := some 14 }
noncomputable def hSt (t : Params → BT) (n k : Nat) (w : World) (os : OsState) : SharedT := ⟨t w.params, n, {}, ⟨[]⟩, {}, k, os⟩
end
section
open PySem PySem.W PyProof.Rows PySem.Calls
noncomputable abbrev hCd : Code := .body (behindTheImports hP) hEnv
noncomputable abbrev hB : List Frame := [topFrame ⟨0, 0, 0, 0⟩]
noncomputable abbrev hSeg := @PySem.W.Fast.tw10110043849684766642
noncomputable abbrev hTb := PySem.W.Fast.tw14364793385576792824
noncomputable def hSs (a b : Nat) : List Stmt := (hP.main.body.drop a).take b
theorem pc1 : ∀ w : World, (fun os => hSeg hTb hP w 11 (some (.ref 6)) 1 267 (hSt hT0 15 187 w os) (piecesOf (hSs 0 3) hEnv hCd ⟨0, 0, 0, 0⟩ hB)) =
    fun os => some (.next, hSt hT1 42 225 w os, hCd, ⟨5, 0, 9, 24⟩) := fun w => by kernel_rfl
theorem pc2 : ∀ w : World, (fun os => hSeg hTb hP w 11 (some (.ref 6)) 1 387 (hSt hT1 42 225 w os) (piecesOf (hSs 3 13) hEnv hCd ⟨5, 0, 9, 24⟩ hB)) =
    fun os => some (.next, hSt hT2 76 283 w os, hCd, ⟨37, 0, 43, 17⟩) := fun w => by kernel_rfl
theorem pc3 : ∀ w : World, (fun os => hSeg hTb hP w 11 (some (.ref 6)) 1 396 (hSt hT2 76 283 w os) (piecesOf (hSs 16 13) hEnv hCd ⟨37, 0, 43, 17⟩ hB)) =
    fun os => some (.next, hSt hT3 160 407 w os, hCd, ⟨103, 0, 103, 8⟩) := fun w => by kernel_rfl
theorem pc4 : ∀ w : World, (fun os => hSeg hTb hP w 11 (some (.ref 6)) 1 398 (hSt hT3 160 407 w os) (piecesOf (hSs 29 13) hEnv hCd ⟨103, 0, 103, 8⟩ hB)) =
    fun os => some (.next, hSt hT4 244 533 w os, hCd, ⟨174, 0, 182, 49⟩) := fun w => by kernel_rfl
theorem pc5 : ∀ w : World, (fun os => hSeg hTb hP w 11 (some (.ref 6)) 1 389 (hSt hT4 244 533 w os) (piecesOf (hSs 42 12) hEnv hCd ⟨174, 0, 182, 49⟩ hB)) =
    fun os => some (.next, hSt hT5 321 672 w os, hCd, ⟨255, 0, 268, 20⟩) := fun w => by kernel_rfl
theorem pc6 : ∀ w : World, (fun os => hSeg hTb hP w 11 (some (.ref 6)) 1 400 (hSt hT5 321 672 w os) (piecesOf (hSs 54 12) hEnv hCd ⟨255, 0, 268, 20⟩ hB)) =
    fun os => some (.next, hSt hT6 405 807 w os, hCd, ⟨334, 0, 339, 69⟩) := fun w => by kernel_rfl
theorem pc7 : ∀ w : World, (fun os => hSeg hTb hP w 11 (some (.ref 6)) 1 377 (hSt hT6 405 807 w os) (piecesOf (hSs 66 14) hEnv hCd ⟨334, 0, 339, 69⟩ hB)) =
    fun os => some (.next, hSt hT7 482 920 w os, hCd, ⟨387, 0, 390, 95⟩) := fun w => by kernel_rfl
theorem pc8 : ∀ w : World, (fun os => hSeg hTb hP w 11 (some (.ref 6)) 1 390 (hSt hT7 482 920 w os) (piecesOf (hSs 80 13) hEnv hCd ⟨387, 0, 390, 95⟩ hB)) =
    fun os => some (.next, hSt hT8 566 1038 w os, hCd, ⟨422, 0, 423, 81⟩) := fun w => by kernel_rfl
theorem pc9 : ∀ w : World, (fun os => hSeg hTb hP w 11 (some (.ref 6)) 1 398 (hSt hT8 566 1038 w os) (piecesOf (hSs 93 13) hEnv hCd ⟨422, 0, 423, 81⟩ hB)) =
    fun os => some (.next, hSt hT9 657 1149 w os, hCd, ⟨448, 0, 449, 164⟩) := fun w => by kernel_rfl
theorem pc10 : ∀ w : World, (fun os => hSeg hTb hP w 11 (some (.ref 6)) 1 382 (hSt hT9 657 1149 w os) (piecesOf (hSs 106 15) hEnv hCd ⟨448, 0, 449, 164⟩ hB)) =
    fun os => some (.next, hSt hT10 734 1260 w os, hCd, ⟨506, 0, 507, 55⟩) := fun w => by kernel_rfl
theorem pc11 : ∀ w : World, (fun os => hSeg hTb hP w 11 (some (.ref 6)) 1 387 (hSt hT10 734 1260 w os) (piecesOf (hSs 121 12) hEnv hCd ⟨506, 0, 507, 55⟩ hB)) =
    fun os => some (.next, hSt hT11 818 1382 w os, hCd, ⟨554, 0, 559, 15⟩) := fun w => by kernel_rfl
theorem pc12 : ∀ w : World, (fun os => hSeg hTb hP w 11 (some (.ref 6)) 1 401 (hSt hT11 818 1382 w os) (piecesOf (hSs 133 13) hEnv hCd ⟨554, 0, 559, 15⟩ hB)) =
    fun os => some (.next, hSt hT12 909 1496 w os, hCd, ⟨588, 0, 589, 40⟩) := fun w => by kernel_rfl
theorem pc13 : ∀ w : World, (fun os => hSeg hTb hP w 11 (some (.ref 6)) 1 277 (hSt hT12 909 1496 w os) (piecesOf (hSs 146 11) hEnv hCd ⟨588, 0, 589, 40⟩ hB)) =
    fun os => some (.next, hSt hT13 965 1575 w os, hCd, ⟨617, 0, 617, 6⟩) := fun w => by kernel_rfl
theorem pc14 : ∀ w : World, (fun os => hSeg hTb hP w 11 (some (.ref 6)) 1 385 (hSt hT13 965 1575 w os) (piecesOf (hSs 157 3) hEnv hCd ⟨617, 0, 617, 6⟩ hB)) =
    fun os => some (.next, hSt hT14 1021 1650 w os, hCd, ⟨640, 0, 644, 18⟩) := fun w => by kernel_rfl
theorem pc15 : ∀ w : World, (fun os => hSeg hTb hP w 11 (some (.ref 6)) 1 270 (hSt hT14 1021 1650 w os) (piecesOf (hSs 160 9) hEnv hCd ⟨640, 0, 644, 18⟩ hB)) =
    fun os => some (.next, hSt hT15 1077 1736 w os, hCd, ⟨698, 0, 698, 8⟩) := fun w => by kernel_rfl
theorem pc16 : ∀ w : World, (fun os => hSeg hTb hP w 11 (some (.ref 6)) 1 392 (hSt hT15 1077 1736 w os) (piecesOf (hSs 169 6) hEnv hCd ⟨698, 0, 698, 8⟩ hB)) =
    fun os => some (.next, hSt hT16 1131 1826 w os, hCd, ⟨735, 0, 741, 16⟩) := fun w => by kernel_rfl
theorem pc17 : ∀ w : World, (fun os => hSeg hTb hP w 11 (some (.ref 6)) 1 216 (hSt hT16 1131 1826 w os) (piecesOf (hSs 175 8) hEnv hCd ⟨735, 0, 741, 16⟩ hB)) =
    fun os => some (.next, hSt hT17 1178 1882 w os, hCd, ⟨760, 0, 760, 8⟩) := fun w => by kernel_rfl
theorem pc18 : ∀ w : World, (fun os => hSeg hTb hP w 11 (some (.ref 6)) 1 377 (hSt hT17 1178 1882 w os) (piecesOf (hSs 183 6) hEnv hCd ⟨760, 0, 760, 8⟩ hB)) =
    fun os => some (.next, hSt hT18 1228 1969 w os, hCd, ⟨783, 0, 800, 32⟩) := fun w => by kernel_rfl
theorem pc19 : ∀ w : World, (fun os => hSeg hTb hP w 11 (some (.ref 6)) 1 270 (hSt hT18 1228 1969 w os) (piecesOf (hSs 189 8) hEnv hCd ⟨783, 0, 800, 32⟩ hB)) =
    fun os => some (.next, hSt hT19 1280 2066 w os, hCd, ⟨916, 0, 942, 61⟩) := fun w => by kernel_rfl
end
section
open PySem PySem.W PyProof.Rows PySem.Calls
noncomputable abbrev hGo := @PySem.W.Fast.tw15667345088766844465
noncomputable abbrev hDen := @PySem.W.Fast.tw11892475500146522536
noncomputable abbrev hSegS := @PySem.W.Fast.tw14374325043358763698
noncomputable abbrev hTop := @PySem.W.Fast.tw14082659384304107361
noncomputable def hAbs (t : Params → BT) (n k : Nat) (w : World) (os : OsState) : Shared := (hSt t n k w os).abs
theorem pre0 : ∀ w : World, (fun os => hGo hTb hP w 11 (some (.ref 6)) 12 ⟨boot_heap w.params, ⟨[]⟩, boot_drawn, boot_toks, os⟩ (topStub hP)) =
    fun os => some (hAbs hT0 15 187 w os, ⟨hDen hTb hCd, hCd, ⟨0, 0, 0, 0⟩, hB⟩) := fun w => by kernel_rfl
theorem blk0 : ∀ w : World, (fun os => hSegS hTb hP w 11 (some (.ref 6)) 1 1 (hAbs hT0 15 187 w os) (blockOf (behindTheImports hP) hEnv hCd ⟨0, 0, 0, 0⟩ hB)) =
    fun os => some (.next, hAbs hT0 15 187 w os, hCd, ⟨0, 0, 0, 0⟩) := fun w => by kernel_rfl
theorem fin0 : ∀ w : World, (fun os => hTop hTb hP w 11 (some (.ref 6)) 2 (hAbs hT19 1280 2066 w os) ⟨doneF .next, hCd, ⟨916, 0, 942, 61⟩, hB⟩) =
    fun os => some (hAbs hT19 1280 2066 w os) := fun w => by kernel_rfl
end
section
open PySem PySem.W PyProof.Rows PySem.Calls
theorem hSeg_eq : @segRunT = hSeg := PySem.W.Fast.te10110043849684766642
theorem hSegS_eq : @segRun = hSegS := PySem.W.Fast.te14374325043358763698
theorem hGo_eq : @topGo = hGo := PySem.W.Fast.te15667345088766844465
theorem hTop_eq : @topRun = hTop := PySem.W.Fast.te14082659384304107361
theorem hDen_eq : @denote = hDen := PySem.W.Fast.te11892475500146522536
theorem hTb_eq : treeTable = hTb := PySem.W.Fast.te14364793385576792824
theorem of_pc {w : World} {N n0 k0 n1 k1 : Nat} {t0 t1 : Params → BT} {l : List Stmt} {p0 p1 : Pos}
    (h : (fun os => hSeg hTb hP w 11 (some (.ref 6)) 1 N (hSt t0 n0 k0 w os) (piecesOf l hEnv hCd p0 hB)) = fun os => some (.next, hSt t1 n1 k1 w os, hCd, p1)) (os : OsState) :
    segRun treeTable hP w 11 (some (.ref 6)) 1 N (hAbs t0 n0 k0 w os) (piecesOf l hEnv hCd p0 hB) = some (.next, hAbs t1 n1 k1 w os, hCd, p1) := by
  have h' := congrFun h os
  rw [← hSeg_eq, ← hTb_eq] at h'
  exact segRun_of h'
theorem app_pc {w : World} {os : OsState} {N M n0 k0 n1 k1 : Nat} {t0 t1 : Params → BT} {l rest : List Stmt} {p0 p1 : Pos} {r : Shared}
    (h : (fun os => hSeg hTb hP w 11 (some (.ref 6)) 1 N (hSt t0 n0 k0 w os) (piecesOf l hEnv hCd p0 hB)) = fun os => some (.next, hSt t1 n1 k1 w os, hCd, p1))
    (k : topRun treeTable hP w 11 (some (.ref 6)) M (hAbs t1 n1 k1 w os) (restOf rest hEnv hCd p1 hB) = some r) :
    topRun treeTable hP w 11 (some (.ref 6)) (N + M) (hAbs t0 n0 k0 w os) (restOf (l ++ rest) hEnv hCd p0 hB) = some r := piece_app (of_pc h os) k
theorem hBody_eq : behindTheImports hP = hSs 0 3 ++ (hSs 3 13 ++ (hSs 16 13 ++ (hSs 29 13 ++ (hSs 42 12 ++ (hSs 54 12 ++ (hSs 66 14 ++ (hSs 80 13 ++ (hSs 93 13 ++ (hSs 106 15 ++ (hSs 121 12 ++ (hSs 133 13 ++ (hSs 146 11 ++ (hSs 157 3 ++ (hSs 160 9 ++ (hSs 169 6 ++ (hSs 175 8 ++ (hSs 183 6 ++ (hSs 189 8 ++ [])))))))))))))))))) := by kernel_rfl
theorem hRun (w : World) (os : OsState) : topRun treeTable hP w 11 (some (.ref 6)) (12 + (1 + (267 + (387 + (396 + (398 + (389 + (400 + (377 + (390 + (398 + (382 + (387 + (401 + (277 + (385 + (270 + (392 + (216 + (377 + (270 + 2)))))))))))))))))))))
    ⟨boot_heap w.params, ⟨[]⟩, boot_drawn, boot_toks, os⟩ (topStub hP) = some (hAbs hT19 1280 2066 w os) := by
  have h0 := congrFun (pre0 w) os
  have hb := congrFun (blk0 w) os
  have hf := congrFun (fin0 w) os
  rw [← hGo_eq, ← hTb_eq, ← hDen_eq] at h0
  rw [← hSegS_eq, ← hTb_eq] at hb
  rw [← hTop_eq, ← hTb_eq] at hf
  refine go_top h0 (piece_block hb ?_)
  rw [show restOf (behindTheImports hP) hEnv hCd ⟨0, 0, 0, 0⟩ hB = restOf _ hEnv hCd ⟨0, 0, 0, 0⟩ hB from congrArg (fun b => restOf b hEnv hCd ⟨0, 0, 0, 0⟩ hB) hBody_eq]
  exact app_pc (pc1 w) (app_pc (pc2 w) (app_pc (pc3 w) (app_pc (pc4 w) (app_pc (pc5 w) (app_pc (pc6 w) (app_pc (pc7 w) (app_pc (pc8 w) (app_pc (pc9 w) (app_pc (pc10 w) (app_pc (pc11 w) (app_pc (pc12 w) (app_pc (pc13 w) (app_pc (pc14 w) (app_pc (pc15 w) (app_pc (pc16 w) (app_pc (pc17 w) (app_pc (pc18 w) (app_pc (pc19 w) (piece_nil hf)))))))))))))))))))
end
section
open PySem PySem.W PyProof.Rows PySem.Calls
theorem hOpening : opening hP = plainProg hP.main.scope.names := by kernel_rfl
theorem hFence (s : Shared) : fenceModules? hP s = some s := by kernel_rfl
theorem hOpen : ∀ w : World, (fencedOpening treeTable hP w 20000).map (fun s => (s.heap, s.gens, s.drawn, s.toks)) = some (boot_heap w.params, Array.mk [], boot_drawn, boot_toks) :=
  boot_open hOpening (by decide +kernel) hFence
theorem hSize : ∀ w : World, ((boot_heap w.params).isNs mainGlobals && (⟨[]⟩ : Array GenState).size == 0, (boot_heap w.params).objs.size, (boot_heap w.params).nsMap mainGlobals "__annotations__") = (true, 11, some (Value.ref 6)) := fun w => by kernel_rfl
end
section
open PySem PySem.W PyProof.Rows PySem.Calls
noncomputable def qv : Program := { hP with main := { hP.main with body := [hS 196] } }
theorem q1 : (recsOf qv).map (·.name) = [("law" : Str)] := by kernel_rfl
theorem q2 : (ownsOf qv).length = 0 := by kernel_rfl
theorem q3 : (litsOf qv).length = 0 := by kernel_rfl
theorem q4 : (wdefsOf qv).length = 0 := by kernel_rfl
theorem q5 : chainsOk qv = true := by kernel_rfl
theorem q6 : (drecsOf qv).length = 0 := by kernel_rfl
end
section
open PySem PySem.W PyProof.Rows PySem.Calls
noncomputable def hH (w : World) : Heap := absHeap (hT19 w.params) 1280 {}
noncomputable def hLoose : List Str := (hP.boundNames.filter fun n => !Fast.sEq n ⟨⟨[108, 97, 119]⟩⟩)
theorem look1 : ∀ w : World, (fun os : OsState => (staticsOk (importedModules hP.main.body) (boot_heap w.params) (hH w) : Bool)) = fun _ => true := fun w => by kernel_rfl
noncomputable abbrev hFs (w : World) (os : OsState) : Shared := ⟨hH w, ⟨[]⟩, {}, 2066, os⟩
theorem look2 : ∀ w : World, (laidKept (boot_heap w.params) (hH w)) = true := fun w => by kernel_rfl
theorem look3 : ∀ w : World, (hH w).bltView = bltViewBooted := fun w => by kernel_rfl
theorem look4 : ∀ w : World, namesBound hP (hH w) = true := fun w => by kernel_rfl
end
section
open PySem PySem.W PyProof.Rows PySem.Calls
theorem look5 : ∀ w : World, (fun os => seen ((recsOf qv).map (·.name)) (ownsOf qv) [] { hFs w os with gens := #[] }) = fun _ => expectedOf qv := fun w => by kernel_rfl
theorem look6 : ∀ w : World, (fun os => tabsOk qv (hFs w os)) = fun _ => true := fun w => by kernel_rfl
end
section
open PySem PySem.W PyProof.Rows PySem.Calls
theorem look7 : ∀ w : World, (hH w).accountedOkI (importedModules hP.main.body) = true := fun w => by kernel_rfl
theorem look8 : ∀ w : World, (fun os => (pinSeenD qv (drecsOf qv) (hFs w os), plainSeenD qv hLoose (hFs w os), wideSeen qv (hFs w os), clsSeenW qv hLoose (hFs w os), tablesOk qv (hH w), (hH w).isNs mainGlobals && (hH w).isNs builtinsNs)) = fun _ => (pinGoodD (drecsOf qv), plainGoodD qv hLoose, wideGood qv, clsGoodW qv hLoose, true, true) := fun w => by kernel_rfl
end
section
open PySem PySem.W PyProof.Rows PySem.Calls
theorem look9 : ∀ w : World, (hH w).keysOk (looseW qv hLoose) ((recsOf qv).map (·.name)) ((litsOf qv).map (·.1)) ((clssOf qv (looseW qv hLoose)).map (·.name)) = true := fun w => by kernel_rfl
theorem look10 : ∀ w : World, (fun os => plainSeenE qv (looseW qv hLoose) (hFs w os)) = fun _ => plainGoodE qv (looseW qv hLoose) := fun w => by kernel_rfl
end
section
open PySem PySem.W PyProof.Rows PySem.Calls
theorem altO_nil (b : Bool) : altO [] b = [] := rfl
theorem altO_t (x : Obj) (r : List Obj) : altO (x :: r) true = x :: altO r false := rfl
theorem altO_f (x : Obj) (r : List Obj) : altO (x :: r) false = altO r true := rfl
theorem altO_get : ∀ (l : List Obj) (i : Nat), (altO l true)[i]? = l[2 * i]? ∧ (altO l false)[i]? = l[2 * i + 1]?
  | [], i => by simp [altO_nil]
  | x :: r, i => by
    rw [altO_t, altO_f]
    refine ⟨?_, ?_⟩
    · cases i with
      | zero => rfl
      | succ i => rw [List.getElem?_cons_succ, (altO_get r i).2]; rfl
    · rw [(altO_get r i).1, List.getElem?_cons_succ]
theorem altO_len : ∀ (l : List Obj), (altO l true).length = (l.length + 1) / 2 ∧ (altO l false).length = l.length / 2
  | [] => by simp [altO_nil]
  | x :: r => by
    rw [altO_t, altO_f]
    obtain ⟨h1, h2⟩ := altO_len r
    exact ⟨by rw [List.length_cons, h2, List.length_cons]; exact (Nat.add_div_right r.length (Nat.zero_lt_two)).symm, h1⟩
theorem mkT_succ (n : Nat) (v : Obj) (r : List Obj) : mkT (n + 1) (v :: r) = .node v (mkT n (altO r true)) (mkT n (altO r false)) := rfl
theorem mkT_nil (n : Nat) : mkT n [] = .nil := by cases n <;> rfl
theorem hf1 {a m : Nat} (h : a + 1 < m * 2) : (a + 1) / 2 < m := Nat.div_lt_of_lt_mul (Nat.mul_comm m 2 ▸ h)
theorem hf2 {a m : Nat} (h : a + 1 < m * 2) : a / 2 < m := Nat.lt_of_le_of_lt (Nat.div_le_div_right (Nat.le_succ a)) (hf1 h)
theorem ix1 {j : Nat} (h : (j + 1) % 2 = 1) : 2 * ((j + 1) / 2) = j := by omega
theorem ix2 {j : Nat} (h : ¬ (j + 1) % 2 = 1) : 2 * ((j + 1) / 2 - 1) + 1 = j := by omega
theorem ix3 {a b : Nat} (h : a + 1 ≤ b) : b - a = b - (a + 1) + 1 := by omega
theorem mkT_get : ∀ (n : Nat) (l : List Obj) (i : Nat), l.length < 2 ^ n → (mkT n l).get i = l[i]?
  | n, [], i, _ => by rw [mkT_nil]; rfl
  | 0, v :: r, i, h => by simp at h
  | n + 1, v :: r, i, h => by
    rw [mkT_succ, BT.get_node]
    have hl := altO_len r
    rw [List.length_cons, Nat.pow_succ] at h
    by_cases h0 : i = 0
    · subst h0; rfl
    · obtain ⟨j, rfl⟩ := Nat.exists_eq_succ_of_ne_zero h0
      rw [if_neg h0, List.getElem?_cons_succ]
      by_cases h1 : (j + 1) % 2 = 1
      · rw [if_pos h1, mkT_get n _ _ (hl.1 ▸ hf1 h), (altO_get r _).1, ix1 h1]
      · rw [if_neg h1, mkT_get n _ _ (hl.2 ▸ hf2 h), (altO_get r _).2, ix2 h1]
noncomputable def gFin (P : Params) : Obj := gOb P (.str (sS [108, 97, 119, 95, 112, 102, 48, 49, 52, 49, 95, 48, 49]) 1933) 189
noncomputable def zipF : Nat → List Obj → Frag
  | _, [] => []
  | a, o :: r => (a, o) :: zipF (a + 1) r
theorem zipF_cons (a : Nat) (o : Obj) (r : List Obj) : zipF a (o :: r) = (a, o) :: zipF (a + 1) r := rfl
theorem zipF_get : ∀ {l : List Obj} {a b : Nat} {o : Obj}, (zipF a l).lookup b = some o → a ≤ b ∧ l[b - a]? = some o
  | [], a, b, o, h => nomatch (show none = some o from h)
  | x :: r, a, b, o, h => by
    rw [zipF_cons, List.lookup_cons] at h
    cases e : b == a with
    | true =>
      rw [e] at h
      obtain rfl : b = a := by simpa using e
      cases h
      exact ⟨Nat.le_refl _, by rw [Nat.sub_self]; rfl⟩
    | false =>
      rw [e] at h
      obtain ⟨h1, h2⟩ := zipF_get h
      refine ⟨Nat.le_of_succ_le h1, ?_⟩
      rw [ix3 h1, List.getElem?_cons_succ]
      exact h2
noncomputable def hFull (P : Params) : List Obj := hObjs P c38b
theorem hFull_len (P : Params) : (hFull P).length = 1267 := by kernel_rfl
noncomputable def hLow (P : Params) : List Obj := [boot_o_0 P, boot_o_1 P, o2b P, gFin P, boot_o_4 P, boot_o_5 P, boot_o_6 P, boot_o_7 P, boot_o_8 P, boot_o_9 P, boot_o_10 P, ⟨tuN, none, (.seq ⟨[]⟩), ⟨[]⟩⟩, pOb 170]
noncomputable def notFreed : Obj → Bool
  | ⟨_, _, .freed, _⟩ => false
  | _ => true
theorem hFull_live (P : Params) : (hLow P ++ hFull P).all notFreed = true := by kernel_rfl
theorem hT19_eq (P : Params) : hT19 P = mkT 12 (hLow P ++ (hFull P).take 1267) := rfl
noncomputable def hK (P : Params) : Frag := (2, o2b P) :: (3, gFin P) :: zipF 13 (hFull P)
theorem hK_in (w : World) : (hK w.params).In (hH w) := fun a o h => by
  have key : ∀ i o, (hLow w.params ++ hFull w.params)[i]? = some o → (hH w).get? i = some o := fun i o h => by
    have hlen : (hLow w.params ++ hFull w.params).length = 1280 := by rw [List.length_append, hFull_len]; rfl
    have hi := (List.getElem?_eq_some_iff.mp h).1
    unfold hH Heap.get?
    rw [absHeap_at, if_pos (by omega), hT19_eq, List.take_of_length_le (by rw [hFull_len]; exact Nat.le_refl _), mkT_get _ _ _ (by rw [hlen]; decide), h]
    have hn := List.all_eq_true.mp (hFull_live w.params) o (List.mem_of_getElem? h)
    show (match some o with | some ⟨_, _, .freed, _⟩ => none | o => o) = some o
    obtain ⟨oc, od, dt, os⟩ := o
    cases dt <;> first | rfl | cases hn
  unfold hK at h
  rw [List.lookup_cons] at h
  cases e : a == 2 with
  | true =>
    rw [e] at h
    obtain rfl : a = 2 := by simpa using e
    cases h
    exact key 2 _ rfl
  | false =>
    rw [e] at h
    replace h : List.lookup a ((3, gFin w.params) :: zipF 13 (hFull w.params)) = some o := h
    rw [List.lookup_cons] at h
    cases e : a == 3 with
    | true =>
      rw [e] at h
      obtain rfl : a = 3 := by simpa using e
      cases h
      exact key 3 _ rfl
    | false =>
      rw [e] at h
      obtain ⟨h1, h2⟩ := zipF_get h
      refine key a o ?_
      rw [List.getElem?_append_right (by show 13 ≤ a; exact h1)]
      exact h2
noncomputable def hHook : Hook := ⟨Heap, fun s => s.heap, fun w => hH w, fun w h => (hK w.params).In h, fun w s e => by rw [e]; exact hK_in w, fun _ _ _ x k => Frag.In.keeps x k⟩
end
section
open PySem PySem.W PyProof.Rows PySem.Calls
set_option maxHeartbeats 8000000 in
theorem hSaid : PySem.Challenge.rw_pf0141_01.wellSaid = true := by
  rw [show @OpenLaw.wellSaid = _ from PySem.W.Fast.te9446332074065402090]
  unfold PySem.W.Fast.tw9446332074065402090 PySem.W.Fast.tw17960256430627541270 PySem.W.Fast.tw2436336058641802641 PySem.W.Fast.tw12908688711261696721
  dsimp only
  repeat' (with_reducible refine look_both ?_ ?_)
  all_goals (decide +kernel)
end
section
open PySem PySem.W PyProof.Rows PySem.Calls
noncomputable def hXt : Shared → Bool := fun s => xlAt qv [] s && recOk [] s
theorem look12 : ∀ w : World, (fun os : OsState => hXt (hFs w os)) = fun _ => true := fun w => by kernel_rfl
theorem look13 : ∀ w : World, (fun os : OsState => (gensDone (hFs w os), (hFs w os).gens.size == 0)) = fun _ => (true, true) := fun w => by kernel_rfl
noncomputable def hD : DefRec := match hS 196 with | .FunctionDef n ps b _ _ _ sc _ _ pos => ⟨n, ps, b, sc, pos⟩ | _ => ⟨⟨#[]⟩, default, [], default, default⟩
theorem hDef : defOf qv (PySem.Str.ofString "law") = some (hD, []) := by kernel_rfl
theorem hThe : hP.theDef (PySem.Str.ofString "law") = some (hD.params, hD.body, hD.scope) := by kernel_rfl
theorem hKw : kwWritten? hD.params.kwonlyargs hD.params.kw_defaults = some [] := by kernel_rfl
set_option maxHeartbeats 4000000 in
theorem hOpensWell : opensWell hP = true := by decide +kernel
theorem wSs_app (top : Scope) (cx : TablesWhole.Ctx) (sc : Scope) (a b : List Stmt) (h1 : TablesWhole.wSs TablesWhole.holds top cx sc a = true) (h2 : TablesWhole.wSs TablesWhole.holds top cx sc b = true) : TablesWhole.wSs TablesWhole.holds top cx sc (a ++ b) = true := by
  induction a with
  | nil => exact h2
  | cons s r ih =>
    have h : (TablesWhole.wS TablesWhole.holds top cx sc s && TablesWhole.wSs TablesWhole.holds top cx sc r) = true := h1
    rw [Bool.and_eq_true] at h
    show (TablesWhole.wS TablesWhole.holds top cx sc s && TablesWhole.wSs TablesWhole.holds top cx sc (r ++ b)) = true
    rw [h.1, ih h.2]; rfl
theorem all_split {α : Type} (l : List α) (p : α → Bool) (n : Nat) (h1 : (l.take n).all p = true) (h2 : (l.drop n).all p = true) : l.all p = true := by
  rw [← List.take_append_drop n l, List.all_append, h1, h2]; rfl
noncomputable def ntP (sc : Scope) : Str × NameKind → Bool := fun x => match sc.names.filter (·.1 == x.1) with
  | [_] => true
  | [(_, a), (_, b)] => sc.kind == .class && a != .free && b == .free
  | _ => false
theorem nt_eq (sc : Scope) : TablesWhole.noTwice sc = sc.names.all (ntP sc) := rfl
theorem wMod_eq (m : Module) : TablesWhole.wModule TablesWhole.holds m = (true && (TablesWhole.noTwice m.scope && (TablesWhole.wSs TablesWhole.holds m.scope ⟨m.scope, [], TablesWhole.wSs TablesWhole.gather m.scope ⟨m.scope, [], [], [], none⟩ m.scope m.body, [], none⟩ m.scope m.body && true))) := rfl
theorem hTold : TablesWhole.wSs TablesWhole.gather hP.main.scope ⟨hP.main.scope, [], [], [], none⟩ hP.main.scope hP.main.body = [] := by kernel_rfl
noncomputable def hW (l : List Stmt) : Bool := TablesWhole.wSs TablesWhole.holds hP.main.scope ⟨hP.main.scope, [], [], [], none⟩ hP.main.scope l
theorem hw0 : hW (hP.main.body.take 70) = true := by kernel_rfl
theorem hw1 : hW ((hP.main.body.drop 70).take 60) = true := by kernel_rfl
theorem hw2 : hW ((hP.main.body.drop 70).drop 60) = true := by kernel_rfl
theorem hn0 : (hP.main.scope.names.take 70).all (ntP hP.main.scope) = true := by kernel_rfl
theorem hn1 : ((hP.main.scope.names.drop 70).take 70).all (ntP hP.main.scope) = true := by kernel_rfl
theorem hn2 : ((hP.main.scope.names.drop 70).drop 70).all (ntP hP.main.scope) = true := by kernel_rfl
theorem wMod_of (m : Module) (h1 : TablesWhole.noTwice m.scope = true) (h2 : TablesWhole.wSs TablesWhole.gather m.scope ⟨m.scope, [], [], [], none⟩ m.scope m.body = []) (h3 : TablesWhole.wSs TablesWhole.holds m.scope ⟨m.scope, [], [], [], none⟩ m.scope m.body = true) : TablesWhole.wModule TablesWhole.holds m = true := by
  rw [wMod_eq, h1, h2, h3]; rfl
theorem tw_of (p : Program) (h1 : p.modules = []) (h2 : p.parses = []) (h3 : p.harvested = []) (h : TablesWhole.wModule TablesWhole.holds p.main = true) : p.tablesWhole = true := by
  unfold Program.tablesWhole TablesWhole.wProgram
  rw [h1, h2, h3, h]; rfl
theorem hwA : hW hP.main.body = true := by
  have e := wSs_app hP.main.scope _ hP.main.scope _ _ hw1 hw2
  rw [List.take_append_drop] at e
  have e := wSs_app hP.main.scope _ hP.main.scope _ _ hw0 e
  rw [List.take_append_drop] at e
  exact e
theorem hnA : TablesWhole.noTwice hP.main.scope = true := (nt_eq _).trans (all_split _ _ 70 hn0 (all_split _ _ 70 hn1 hn2))
theorem hTab : hP.tablesWhole = true := tw_of hP rfl rfl rfl (wMod_of hP.main hnA hTold hwA)
theorem hBare : hP.bare := ⟨rfl, rfl, rfl, rfl, rfl, hTab⟩
theorem hFrees : (frees PySem.Challenge.rw_pf0141_01.row.toRowW && PySem.Challenge.rw_pf0141_01.row.within.isEmpty) = true := by kernel_rfl
theorem hProm : PySem.Challenge.rw_pf0141_01.row.toRowW.promised := by w_witness2
end
section
open PySem PySem.W PyProof.Rows PySem.Calls
theorem pr_eq {α β : Type} {a a' : α} {b b' : β} (h : a = a') (k : b = b') : (a, b) = (a', b') := by rw [h, k]
theorem hLooks (w : World) : (fun os => ((staticsOk (importedModules hP.main.body) (boot_heap w.params) (hH w) && namesBound hP (hH w) && gensDone (hFs w os) && laidKept (boot_heap w.params) (hH w)),
    openSeen qv hLoose (importedModules hP.main.body) hXt true (hFs w os), hHook.obs (hFs w os))) = fun _ => (true, openGood qv hLoose, hHook.val w) := by
  funext os
  have e1 := congrFun (look1 w) os
  have e5 := congrFun (look5 w) os
  have e6 := congrFun (look6 w) os
  have e8 := congrFun (look8 w) os
  have e10 := congrFun (look10 w) os
  have e12 := congrFun (look12 w) os
  have e13 := congrFun (look13 w) os
  have e9 := look9 w
  have e7 := look7 w
  have e3 := look3 w
  simp only [Prod.mk.injEq] at e13
  obtain ⟨a1, b1⟩ := Prod.mk.inj e8
  obtain ⟨a2, b2⟩ := Prod.mk.inj b1
  obtain ⟨a3, b3⟩ := Prod.mk.inj b2
  obtain ⟨a4, b4⟩ := Prod.mk.inj b3
  obtain ⟨a5, a6⟩ := Prod.mk.inj b4
  refine Prod.ext ?_ (Prod.ext ?_ rfl)
  · show (staticsOk _ _ _ && namesBound hP (hH w) && gensDone (hFs w os) && laidKept (boot_heap w.params) (hH w)) = true
    rw [e1, look4 w, e13.1, look2 w]; rfl
  · unfold openSeen openGood
    refine pr_eq e5 (pr_eq e3 (pr_eq ?_ (pr_eq e6 (pr_eq a1 (pr_eq e10 (pr_eq a2 (pr_eq a3 a4)))))))
    rw [Bool.and_eq_true] at a6
    dsimp only at e12 ⊢
    simp only [Bool.and_eq_true, if_true]
    exact ⟨⟨⟨⟨⟨⟨e9, e7⟩, a6.1⟩, a6.2⟩, a5⟩, e12⟩, e13.2⟩
theorem hLeft : LeftO hP qv hLoose hXt hHook.obs hHook.val 20000 :=
  LeftO.of_pieces (H₀ := boot_heap) (H₁ := fun P => absHeap (hT19 P) 1280 {}) (gs₁ := ⟨[]⟩) (d₁ := {}) (k₁ := 2066) hOpen hSize hRun (by decide) hLooks
theorem hd (call : WalkO qv hLoose (XL qv []) hHook.says PySem.Challenge.rw_pf0141_01.row.toRowW hD [] fun f vs => PySem.call f vs) : PySem.Challenge.rw_pf0141_01.Holds :=
  holds_law hSaid (fun said => by
    have ok : (chainsOk qv && opensWell hP && (frees PySem.Challenge.rw_pf0141_01.row.toRowW && PySem.Challenge.rw_pf0141_01.row.within.isEmpty)) = true := by rw [q5, hOpensWell, hFrees]; rfl
    exact holds_open (r := PySem.Challenge.rw_pf0141_01.row) (q := qv) (loose := hLoose) (Xt := hXt) (XP := XL qv []) (Yf := hHook.obs) (Ya := hHook.val) (YP := hHook.says) (N := 20000) (d := hD) (kwd := []) hLeft hHook.of hHook.keeps
      (fun s e => xl_of s (Bool.and_eq_true_iff.mp e).1) XL.keeps hDef hThe hKw (fun s e => recFacts_of (Bool.and_eq_true_iff.mp e).2) rfl said ok hBare hProm call)
end
section
open PySem PySem.W PyProof.Rows PySem.Calls
/-- the laid objects below the law's own -/
noncomputable def hK1 (P : Params) : Frag := (2, o2b P) :: (3, gFin P) :: zipF 13 ((hFull P).take 1260)
theorem zipF_lt : ∀ {l : List Obj} {a b : Nat} {o : Obj}, (zipF a l).lookup b = some o → b < a + l.length
  | [], a, b, o, h => nomatch (show none = some o from h)
  | x :: r, a, b, o, h => by
    rw [zipF_cons, List.lookup_cons] at h
    cases e : b == a with
    | true =>
      obtain rfl : b = a := by simpa using e
      exact Nat.lt_add_of_pos_right (Nat.succ_pos _)
    | false =>
      rw [e] at h
      have := zipF_lt h
      rwa [Nat.add_right_comm] at this
theorem zipF_some : ∀ {l : List Obj} {a b : Nat} {o : Obj}, a ≤ b → l[b - a]? = some o → (zipF a l).lookup b = some o
  | [], a, b, o, _, h => by simp at h
  | x :: r, a, b, o, hab, h => by
    rw [zipF_cons, List.lookup_cons]
    cases e : b == a with
    | true =>
      obtain rfl : b = a := by simpa using e
      rw [Nat.sub_self] at h
      exact h
    | false =>
      have hne : b ≠ a := by simpa using e
      have hab' : a + 1 ≤ b := Nat.lt_of_le_of_ne hab (Ne.symm hne)
      rw [ix3 hab', List.getElem?_cons_succ] at h
      exact zipF_some hab' h
theorem hK1_of (P : Params) {a : Addr} {o : Obj} (h : (hK1 P).lookup a = some o) : (hK P).lookup a = some o ∧ a < 1273 := by
  unfold hK1 at h
  unfold hK
  rw [List.lookup_cons] at h ⊢
  cases e : a == 2 with
  | true =>
    rw [e] at h
    obtain rfl : a = 2 := by simpa using e
    exact ⟨h, by decide⟩
  | false =>
    rw [e] at h
    replace h : List.lookup a ((3, gFin P) :: zipF 13 ((hFull P).take 1260)) = some o := h
    show List.lookup a ((3, gFin P) :: zipF 13 (hFull P)) = some o ∧ a < 1273
    rw [List.lookup_cons] at h ⊢
    cases e : a == 3 with
    | true =>
      rw [e] at h
      obtain rfl : a = 3 := by simpa using e
      exact ⟨h, by decide⟩
    | false =>
      rw [e] at h
      have h1 := zipF_get h
      have h2 := zipF_lt h
      have h3 : ((hFull P).take 1260).length ≤ 1260 := by rw [List.length_take]; omega
      refine ⟨zipF_some h1.1 ?_, Nat.lt_of_lt_of_le h2 (Nat.add_le_add_left h3 13)⟩
      have h4 := h1.2
      rw [List.getElem?_take] at h4
      by_cases e : a - 13 < 1260
      · rw [if_pos e] at h4; exact h4
      · rw [if_neg e] at h4; cases h4
theorem hK1_ghost (P : Params) {h : Heap} {c : Addr} (X : (hK P).In h) : (hK1 P).In (ghostOf h [(c, 1274)]) := fun a o e => by
  obtain ⟨h1, h2⟩ := hK1_of P e
  refine ghost_ne (X _ _ h1) ?_
  intro e
  have hq : a = 1274 := by simpa using e
  rw [hq] at h2
  exact absurd h2 (by decide)
end
section
open PySem PySem.W PyProof.Rows PySem.Calls
noncomputable abbrev KK (w : World) : Frag := hK1 w.params
noncomputable def glT : List (List Nat × GV) := [([95, 119, 97, 108, 108], .av (.con 21)),
  ([117, 110, 105, 116, 115, 95, 111, 102], .av (.con 60)),
  ([99, 111, 117, 110, 116, 95, 100, 105, 103, 105, 116, 115], .av (.con 68)),
  ([115, 116, 114, 105, 112, 95, 122, 101, 114, 111, 115], .av (.con 75)),
  ([114, 111, 117, 110, 100, 95, 100, 105, 103, 105, 116, 115], .av (.con 82)),
  ([114, 111, 117, 110, 100, 95, 114, 101, 97, 108], .av (.con 89)),
  ([101, 120, 97, 99, 116, 95, 97, 100, 100], .av (.con 96)),
  ([101, 120, 97, 99, 116, 95, 109, 117, 108], .av (.con 103)),
  ([114, 101, 97, 108, 95, 110, 101, 103], .av (.con 110)),
  ([113, 117, 111, 116, 105, 101, 110, 116], .av (.con 117)),
  ([114, 101, 97, 108, 95, 115, 117, 98], .av (.con 124)),
  ([114, 101, 97, 108, 95, 100, 105, 118], .av (.con 131)),
  ([114, 101, 97, 108, 95, 99, 111, 109, 112, 97, 114, 101], .av (.con 138)),
  ([114, 101, 97, 108, 95, 111, 102, 95, 105, 110, 116], .av (.con 145)),
  ([114, 101, 97, 108, 95, 116, 111, 95, 105, 110, 116], .av (.con 152)),
  ([100, 105, 103, 105, 116, 115, 95, 111, 102], .av (.con 159)),
  ([108, 101, 97, 100, 95, 111, 102], .av (.con 166)),
  ([112, 108, 97, 99, 101, 115, 95, 102, 111, 114], .av (.con 173)),
  ([102, 105, 120, 101, 100], .av (.con 180)),
  ([119, 104, 111, 108, 101, 95, 114, 111, 111, 116], .av (.con 187)),
  ([115, 113, 114, 116, 95, 114, 101, 97, 108], .av (.con 194)),
  ([105, 110, 118, 101, 114, 115, 101, 95, 115, 101, 114, 105, 101, 115], .av (.con 201)),
  ([108, 111, 103, 95, 111, 102, 95, 116, 101, 110], .av (.con 208)),
  ([104, 97, 108, 102, 95, 116, 117, 114, 110], .av (.con 215)),
  ([101, 120, 112, 95, 102, 105, 120, 101, 100], .av (.con 222)),
  ([101, 120, 112, 95, 112, 97, 114, 116, 115], .av (.con 229)),
  ([105, 115, 95, 116, 111, 111, 95, 103, 114, 101, 97, 116], .av (.con 236)),
  ([101, 120, 112, 95, 114, 101, 97, 108], .av (.con 243)),
  ([108, 111, 103, 95, 112, 97, 114, 116, 115], .av (.con 250)),
  ([99, 104, 101, 99, 107, 95, 112, 111, 115, 105, 116, 105, 118, 101], .av (.con 257)),
  ([108, 111, 103, 95, 114, 101, 97, 108], .av (.con 264)),
  ([108, 111, 103, 49, 48, 95, 114, 101, 97, 108], .av (.con 271)),
  ([119, 97, 118, 101, 95, 102, 105, 120, 101, 100], .av (.con 278)),
  ([119, 97, 118, 101], .av (.con 285)),
  ([105, 115, 95, 116, 105, 110, 121], .av (.con 292)),
  ([115, 105, 110, 95, 114, 101, 97, 108], .av (.con 299)),
  ([99, 111, 115, 95, 114, 101, 97, 108], .av (.con 306)),
  ([116, 97, 110, 95, 114, 101, 97, 108], .av (.con 313)),
  ([97, 114, 99, 95, 102, 105, 120, 101, 100], .av (.con 320)),
  ([114, 97, 116, 105, 111, 95, 97, 110, 103, 108, 101], .av (.con 327)),
  ([105, 115, 95, 98, 101, 121, 111, 110, 100, 95, 111, 110, 101], .av (.con 334)),
  ([97, 114, 99, 95, 112, 97, 114, 116, 115], .av (.con 341)),
  ([97, 115, 105, 110, 95, 114, 101, 97, 108], .av (.con 348)),
  ([97, 99, 111, 115, 95, 114, 101, 97, 108], .av (.con 355)),
  ([115, 116, 114, 97, 105, 103, 104, 116, 95, 97, 110, 103, 108, 101], .av (.con 362)),
  ([97, 116, 97, 110, 50, 95, 114, 101, 97, 108], .av (.con 369)),
  ([97, 116, 97, 110, 95, 114, 101, 97, 108], .av (.con 376)),
  ([101, 120, 112, 95, 112, 97, 105, 114], .av (.con 383)),
  ([99, 104, 101, 99, 107, 95, 103, 114, 101, 97, 116], .av (.con 390)),
  ([115, 105, 110, 104, 95, 114, 101, 97, 108], .av (.con 397)),
  ([99, 111, 115, 104, 95, 114, 101, 97, 108], .av (.con 404)),
  ([116, 97, 110, 104, 95, 114, 101, 97, 108], .av (.con 411)),
  ([114, 111, 117, 110, 100, 95, 112, 97, 114, 116, 115], .av (.con 418)),
  ([99, 111, 109, 112, 108, 101, 120, 95, 110, 101, 103], .av (.con 425)),
  ([119, 105, 100, 101, 95, 116, 111, 112], .av (.con 432)),
  ([115, 105, 122, 101, 95, 115, 113, 117, 97, 114, 101], .av (.con 439)),
  ([105, 115, 95, 110, 111, 117, 103, 104, 116], .av (.con 446)),
  ([104, 97, 108, 118, 101, 100], .av (.con 453)),
  ([99, 111, 109, 112, 108, 101, 120, 95, 97, 98, 115], .av (.con 460)),
  ([99, 111, 109, 112, 108, 101, 120, 95, 115, 113, 114, 116], .av (.con 467)),
  ([99, 111, 109, 112, 108, 101, 120, 95, 101, 120, 112], .av (.con 474)),
  ([108, 111, 103, 95, 98, 111, 116, 104], .av (.con 481)),
  ([99, 111, 109, 112, 108, 101, 120, 95, 108, 111, 103], .av (.con 488)),
  ([99, 111, 109, 112, 108, 101, 120, 95, 115, 105, 110], .av (.con 495)),
  ([99, 111, 109, 112, 108, 101, 120, 95, 99, 111, 115], .av (.con 502)),
  ([114, 111, 111, 116, 95, 118, 97, 108, 117, 101], .av (.con 509)),
  ([101, 120, 112, 95, 118, 97, 108, 117, 101], .av (.con 516)),
  ([108, 111, 103, 95, 118, 97, 108, 117, 101], .av (.con 523)),
  ([108, 111, 103, 49, 48, 95, 118, 97, 108, 117, 101], .av (.con 530)),
  ([115, 105, 110, 95, 118, 97, 108, 117, 101], .av (.con 537)),
  ([99, 111, 115, 95, 118, 97, 108, 117, 101], .av (.con 544)),
  ([116, 97, 110, 95, 118, 97, 108, 117, 101], .av (.con 551)),
  ([97, 115, 105, 110, 95, 118, 97, 108, 117, 101], .av (.con 558)),
  ([97, 99, 111, 115, 95, 118, 97, 108, 117, 101], .av (.con 565)),
  ([97, 116, 97, 110, 95, 118, 97, 108, 117, 101], .av (.con 572)),
  ([97, 116, 97, 110, 50, 95, 118, 97, 108, 117, 101], .av (.con 579)),
  ([115, 105, 110, 104, 95, 118, 97, 108, 117, 101], .av (.con 586)),
  ([99, 111, 115, 104, 95, 118, 97, 108, 117, 101], .av (.con 593)),
  ([116, 97, 110, 104, 95, 118, 97, 108, 117, 101], .av (.con 600)),
  ([109, 97, 116, 104, 95, 111, 112, 101, 114, 97, 116, 105, 111, 110, 115], .av (.con 607)),
  ([99, 111, 109, 112, 108, 101, 120, 95, 115, 105, 122, 101], .av (.con 614)),
  ([99, 111, 109, 112, 108, 101, 120, 95, 114, 111, 111, 116], .av (.con 621)),
  ([99, 111, 109, 112, 108, 101, 120, 95, 101, 120, 112, 95, 118, 97, 108, 117, 101], .av (.con 628)),
  ([99, 111, 109, 112, 108, 101, 120, 95, 108, 111, 103, 95, 118, 97, 108, 117, 101], .av (.con 635)),
  ([99, 111, 109, 112, 108, 101, 120, 95, 115, 105, 110, 95, 118, 97, 108, 117, 101], .av (.con 642)),
  ([99, 111, 109, 112, 108, 101, 120, 95, 99, 111, 115, 95, 118, 97, 108, 117, 101], .av (.con 649)),
  ([99, 111, 109, 112, 108, 101, 120, 95, 111, 112, 101, 114, 97, 116, 105, 111, 110, 115], .av (.con 656)),
  ([102, 105, 116, 95, 105, 110, 116], .av (.con 663)),
  ([99, 117, 116, 95, 113, 117, 111, 116, 105, 101, 110, 116], .av (.con 670)),
  ([111, 114, 100, 101, 114, 95, 111, 102], .av (.con 677)),
  ([99, 111, 108, 108, 97, 116, 101], .av (.con 684)),
  ([117, 110, 97, 114, 121], .av (.con 691)),
  ([114, 101, 97, 108, 95, 97, 115], .av (.con 698)),
  ([99, 111, 110, 118, 101, 114, 116], .av (.con 705)),
  ([104, 97, 108, 102, 95, 117, 112], .av (.con 712)),
  ([97, 115, 95, 105, 110, 116], .av (.con 719)),
  ([97, 115, 95, 114, 101, 97, 108], .av (.con 726)),
  ([97, 115, 95, 100, 111, 117, 98, 108, 101], .av (.con 733)),
  ([97, 115, 95, 99, 111, 109, 112, 108, 101, 120], .av (.con 740)),
  ([115, 97, 109, 101, 95, 99, 111, 109, 112, 108, 101, 120], .av (.con 747)),
  ([99, 117, 116, 95, 114, 101, 97, 108], .av (.con 754)),
  ([110, 101, 97, 114, 95, 114, 101, 97, 108], .av (.con 761)),
  ([110, 101, 97, 114, 95, 105, 110, 116], .av (.con 768)),
  ([119, 105, 116, 104, 111, 117, 116, 95, 115, 105, 103, 110], .av (.con 775)),
  ([114, 101, 115, 116, 95, 111, 102], .av (.con 782)),
  ([119, 105, 116, 104, 95, 115, 105, 103, 110], .av (.con 789)),
  ([99, 111, 109, 112, 97, 114, 101, 95, 110, 117, 109, 98, 101, 114, 115], .av (.con 796)),
  ([100, 105, 102, 102, 101, 114, 101, 110, 99, 101], .av (.con 803)),
  ([100, 111, 117, 98, 108, 101, 95, 112, 114, 111, 100, 117, 99, 116], .av (.con 810)),
  ([101, 120, 116, 114, 101, 109, 101], .av (.con 817)),
  ([103, 114, 101, 97, 116, 101, 115, 116], .av (.con 824)),
  ([108, 101, 97, 115, 116], .av (.con 831)),
  ([103, 114, 101, 97, 116, 101, 115, 116, 95, 97, 115, 95, 114, 101, 97, 108], .av (.con 838)),
  ([108, 101, 97, 115, 116, 95, 97, 115, 95, 114, 101, 97, 108], .av (.con 845)),
  ([103, 114, 101, 97, 116, 101, 115, 116, 95, 97, 115, 95, 105, 110, 116], .av (.con 852)),
  ([108, 101, 97, 115, 116, 95, 97, 115, 95, 105, 110, 116], .av (.con 859)),
  ([115, 101, 99, 111, 110, 100, 95, 112, 97, 114, 116], .av (.con 866)),
  ([99, 111, 110, 106, 117, 103, 97, 116, 101], .av (.con 873)),
  ([110, 117, 109, 98, 101, 114, 95, 111, 112, 101, 114, 97, 116, 105, 111, 110, 115], .av (.con 880)),
  ([99, 111, 100, 101, 95, 111, 102], .av (.con 887)),
  ([115, 105, 103, 110, 95, 111, 102, 95, 99, 111, 100, 101], .av (.con 894)),
  ([108, 101, 110, 103, 116, 104, 95, 111, 102], .av (.con 901)),
  ([112, 108, 97, 99, 101, 95, 111, 102, 95, 116, 101, 120, 116], .av (.con 908)),
  ([105, 115, 95, 110, 111, 116, 95, 98, 101, 108, 111, 119], .av (.con 915)),
  ([105, 115, 95, 97, 98, 111, 118, 101], .av (.con 922)),
  ([105, 115, 95, 110, 111, 116, 95, 97, 98, 111, 118, 101], .av (.con 929)),
  ([105, 115, 95, 98, 101, 108, 111, 119], .av (.con 936)),
  ([116, 101, 120, 116, 95, 111, 112, 101, 114, 97, 116, 105, 111, 110, 115], .av (.con 943)),
  ([97, 108, 108, 95, 105, 110, 116, 114, 105, 110, 115, 105, 99, 115], .av (.con 950)),
  ([118, 97, 108, 117, 101, 95, 98, 121], .av (.con 957)),
  ([105, 110, 116, 114, 105, 110, 115, 105, 99, 95, 118, 97, 108, 117, 101], .av (.con 964)),
  ([110, 101, 101, 100, 95, 117, 110, 105, 116, 115], .av (.con 1013)),
  ([114, 101, 97, 100, 95, 99, 101, 108, 108], .av (.con 1020)),
  ([108, 111, 97, 100, 95, 110, 117, 109, 98, 101, 114], .av (.con 1027)),
  ([115, 116, 111, 114, 101, 95, 110, 117, 109, 98, 101, 114], .av (.con 1034)),
  ([108, 111, 97, 100, 95, 116, 101, 120, 116], .av (.con 1041)),
  ([115, 116, 111, 114, 101, 95, 116, 101, 120, 116], .av (.con 1048)),
  ([112, 97, 100], .av (.con 1055)),
  ([117, 110, 105, 116, 95, 115, 105, 122, 101], .av (.con 1062)),
  ([101, 108, 101, 109, 101, 110, 116, 95, 112, 108, 97, 99, 101], .av (.con 1069)),
  ([115, 117, 98, 95, 112, 108, 97, 99, 101], .av (.con 1076)),
  ([101, 118, 97, 108, 117, 97, 116, 101], .av (.con 1104)),
  ([110, 97, 109, 101, 100, 95, 112, 108, 97, 99, 101], .av (.con 1111)),
  ([98, 111, 117, 110, 100, 95, 111, 102], .av (.con 1118)),
  ([112, 97, 114, 116, 95, 112, 108, 97, 99, 101], .av (.con 1125)),
  ([112, 108, 97, 99, 101, 95, 111, 102], .av (.con 1130)),
  ([104, 97, 115, 95, 112, 108, 97, 99, 101], .av (.con 1137)),
  ([101, 118, 97, 108, 95, 99, 111, 110, 115, 116], .av (.con 1144)),
  ([101, 118, 97, 108, 95, 112, 108, 97, 99, 101], .av (.con 1151)),
  ([101, 118, 97, 108, 95, 99, 111, 110, 118], .av (.con 1158)),
  ([101, 118, 97, 108, 95, 117, 110, 97, 114, 121], .av (.con 1165)),
  ([101, 118, 97, 108, 95, 99, 97, 116], .av (.con 1172)),
  ([101, 118, 97, 108, 95, 105, 110, 116, 114], .av (.con 1177)),
  ([95, 108, 97, 119, 95, 115, 112, 111, 116, 115], .av (.con 1206)),
  ([95, 108, 97, 119, 95, 98, 105, 116, 101], .av (.con 1213)),
  ([95, 108, 97, 119, 95, 116, 111, 108, 100], .av (.con 1220)),
  ([95, 108, 97, 119, 95, 119, 104, 111, 108, 101], .av (.con 1227)),
  ([95, 108, 97, 119, 95, 99, 97, 108, 108], .av (.con 1232)),
  ([95, 108, 97, 119, 95, 116, 101, 120, 116], .av (.con 1237)),
  ([95, 108, 97, 119, 95, 116, 114, 117, 116, 104], .av (.con 1244)),
  ([95, 108, 97, 119, 95, 107, 101, 112, 116], .av (.con 1251)),
  ([95, 108, 97, 119, 95, 112, 97, 114, 116], .av (.con 1258)),
  ([95, 108, 97, 119, 95, 118, 97, 108, 117, 101], .av (.con 1265)),
  ([95, 108, 97, 119, 95, 102, 117, 110, 99, 116, 105, 111, 110], .av (.con 1272)),
  ([73, 78, 84, 69, 71, 69, 82], .av (.int 0)),
  ([82, 69, 65, 76], .av (.int 1)),
  ([68, 79, 85, 66, 76, 69], .av (.int 2)),
  ([67, 79, 77, 80, 76, 69, 88], .av (.int 3)),
  ([76, 79, 71, 73, 67, 65, 76], .av (.int 4)),
  ([67, 72, 65, 82, 65, 67, 84, 69, 82], .av (.int 5)),
  ([83, 69, 67, 79, 78, 68], .av (.int 6)),
  ([83, 73, 71, 78, 83], .av (.int 256)),
  ([77, 101, 109, 111, 114, 121], .av (.con 1002)),
  ([82, 117, 110], .av (.con 1093)),
  ([76, 105, 109, 105, 116, 115], .av (.con 1195)),
  ([108, 101, 110], .bi .len),
  ([97, 98, 115], .bi .abs),
  ([109, 97, 120], .bi .max),
  ([109, 105, 110], .bi .min),
  ([99, 104, 114], .bi .chr),
  ([111, 114, 100], .bi .ord),
  ([100, 105, 118, 109, 111, 100], .bi .divmod),
  ([105, 115, 105, 110, 115, 116, 97, 110, 99, 101], .bi .isinstance),
  ([108, 105, 115, 116], .bi .list),
  ([100, 105, 99, 116], .bi .dict),
  ([116, 117, 112, 108, 101], .bi .tuple),
  ([114, 97, 110, 103, 101], .bi .range),
  ([101, 110, 117, 109, 101, 114, 97, 116, 101], .bi .enumerate)]
noncomputable def nmNought : List Nat := [78, 79, 85, 71, 72, 84]
noncomputable def gl0 (x : Str) : Option GV := if cp x = nmNought then some (.av (.tup [.int 0, .int 0])) else look (cp x) glT
/-! ### one look over all defs -/
noncomputable def asFn : Data → Option FuncData
  | .func fd => some fd
  | _ => none
noncomputable def stB : FuncBody → Option (List Stmt)
  | .stmts b => some b
  | _ => none
noncomputable def fdAt (K : Frag) (a : Nat) : Option FuncData := (K.lookup a).bind fun o => asFn o.data
theorem asFn_inv {d : Data} {fd : FuncData} (h : asFn d = some fd) : d = .func fd := by
  cases d <;> first | exact noS h | exact congrArg Data.func (Option.some.inj h)
theorem stB_inv {d : FuncBody} {b : List Stmt} (h : stB d = some b) : d = .stmts b := by
  cases d <;> first | exact noS h | exact congrArg FuncBody.stmts (Option.some.inj h)
theorem fdAt_inv {K : Frag} {a : Nat} {fd : FuncData} (h : fdAt K a = some fd) : ∃ oc od osl, K.lookup a = some ⟨oc, od, .func fd, osl⟩ := by
  obtain ⟨⟨oc, od, dt, sl⟩, hl, h⟩ := ob_inv h
  obtain rfl := asFn_inv h
  exact ⟨oc, od, sl, hl⟩
noncomputable def pNs (fd : FuncData) : List Str := fd.params.args.map (·.arg)
noncomputable abbrev FnChk (K : Frag) (fd : FuncData) : Prop := (fd.globals = mainGlobals ∧ fd.builtins = builtinsNs ∧ fd.closure.isEmpty = true ∧ codeIn K fd.code fd.qualname = true) ∧
  (∀ x ∈ pNs fd, (fd.scope.names.lookup x == some .local || fd.scope.names.lookup x == some .cell) = true) ∧ ((cellsFrom 0 fd.scope.names []).map (·.1)).Nodup ∧ (pNs fd).Nodup ∧
  fd.scope.isCoroutine = false ∧ fd.scope.isGenerator = false ∧ (fd.scope.kind == .function) = true
theorem fd_of {fd : FuncData} {body : List Stmt} (g1 : fd.globals = mainGlobals) (g2 : fd.builtins = builtinsNs) (g3 : fd.closure.isEmpty = true) (hb : fd.body = .stmts body) :
    fd = fnOf fd.name fd.qualname fd.params body fd.scope fd.defaults fd.kwdefaults fd.doc fd.pyModule fd.annotations fd.code fd.closureTuple := by
  obtain ⟨a1, a2, a3, a4, a5, a6, a7, a8, a9, a10, a11, a12, a13, a14, a15⟩ := fd
  obtain rfl : a6 = _ := g1
  obtain rfl : a15 = _ := g2
  obtain rfl : a7 = _ := List.isEmpty_iff.mp g3
  obtain rfl : a4 = _ := hb
  rfl
theorem chk_kind {K : Frag} {fd : FuncData} (h : FnChk K fd) : ∀ x ∈ pNs fd, fd.scope.names.lookup x = some .local ∨ (fd.scope.names.lookup x = some .cell ∧ ∀ n, ((cellsFrom n fd.scope.names []).lookup x).isSome = true) := fun x hx => by
  rcases Bool.or_eq_true _ _ |>.mp (h.2.1 x hx) with h1 | h1
  · exact .inl (eq_of_beq h1)
  · exact .inr ⟨eq_of_beq h1, fun n => cellsFrom_some _ _ _ (mem_of_lookup (eq_of_beq h1))⟩
theorem chk_ok {c : Cx} {a : Nat} {fd : FuncData} {body : List Stmt} (hl : fdAt c.K a = some fd) (hb : fd.body = .stmts body) (hc : FnChk c.K fd) (hbd : ∀ vs : List Value, vs.length = (pNs fd).length → bindArgs fd ⟨vs, []⟩ = pure ((pNs fd).zip vs)) :
    FnOk c a fd.name fd.qualname fd.params body fd.scope fd.code (pNs fd) := by
  obtain ⟨oc, od, osl, hl⟩ := fdAt_inv hl
  have e := fd_of hc.1.1 hc.1.2.1 hc.1.2.2.1 hb
  have hk := chk_kind hc
  obtain ⟨⟨_, _, _, hcd⟩, _, h1, h2, h3, h4, h5⟩ := hc
  exact ⟨⟨oc, od, _, _, _, _, _, _, osl, hl.trans (congrArg (fun x => some (⟨oc, od, .func x, osl⟩ : Obj)) e), fun vs hv s => .of_eq (by rw [← e]; exact hbd vs hv)⟩, hcd, hk, h1, h2, h3, h4, eq_of_beq h5⟩
noncomputable def transl (K : Frag) (a : Nat) : Option (List (List Nat) × List XS) := (fdAt K a).bind fun fd => (stB fd.body).bind fun body => (mapO (trS gl0 "RunFault" 60 fd.scope.names) body).bind fun b => og (FnChk K fd) ((pNs fd).map cp, b)
theorem map_split {α β : Type} {f g : α → β} (l : List α) (n : Nat) (h1 : (l.take n).map f = (l.take n).map g) (h2 : (l.drop n).map f = (l.drop n).map g) : l.map f = l.map g := by
  rw [← List.take_append_drop n l, List.map_append, List.map_append, h1, h2]
theorem tab_0 (w : World) : ((tabL).take 16).map (fun r => transl (KK w) r.1) = ((tabL).take 16).map (fun r => some r.2) := by kernel_rfl
theorem tab_1 (w : World) : (((tabL).drop 16).take 8).map (fun r => transl (KK w) r.1) = (((tabL).drop 16).take 8).map (fun r => some r.2) := by kernel_rfl
theorem tab_2 (w : World) : ((((tabL).drop 16).drop 8).take 8).map (fun r => transl (KK w) r.1) = ((((tabL).drop 16).drop 8).take 8).map (fun r => some r.2) := by kernel_rfl
theorem tab_3 (w : World) : (((((tabL).drop 16).drop 8).drop 8).take 10).map (fun r => transl (KK w) r.1) = (((((tabL).drop 16).drop 8).drop 8).take 10).map (fun r => some r.2) := by kernel_rfl
theorem tab_4 (w : World) : ((((((tabL).drop 16).drop 8).drop 8).drop 10).take 8).map (fun r => transl (KK w) r.1) = ((((((tabL).drop 16).drop 8).drop 8).drop 10).take 8).map (fun r => some r.2) := by kernel_rfl
theorem tab_5 (w : World) : (((((((tabL).drop 16).drop 8).drop 8).drop 10).drop 8).take 8).map (fun r => transl (KK w) r.1) = (((((((tabL).drop 16).drop 8).drop 8).drop 10).drop 8).take 8).map (fun r => some r.2) := by kernel_rfl
theorem tab_6 (w : World) : ((((((((tabL).drop 16).drop 8).drop 8).drop 10).drop 8).drop 8).take 9).map (fun r => transl (KK w) r.1) = ((((((((tabL).drop 16).drop 8).drop 8).drop 10).drop 8).drop 8).take 9).map (fun r => some r.2) := by kernel_rfl
theorem tab_e (w : World) : ((((((((tabL).drop 16).drop 8).drop 8).drop 10).drop 8).drop 8).drop 9).map (fun r => transl (KK w) r.1) = ((((((((tabL).drop 16).drop 8).drop 8).drop 10).drop 8).drop 8).drop 9).map (fun r => some r.2) := by kernel_rfl
theorem tab_eq (w : World) : tabL.map (fun r => transl (KK w) r.1) = tabL.map (fun r => some r.2) := map_split _ 16 (tab_0 w) (map_split _ 8 (tab_1 w) (map_split _ 8 (tab_2 w) (map_split _ 10 (tab_3 w) (map_split _ 8 (tab_4 w) (map_split _ 8 (tab_5 w) (map_split _ 9 (tab_6 w) (tab_e w)))))))
theorem bind_all (w : World) (g : Nat → Value) : tabL.map (fun r => (fdAt (KK w) r.1).map fun fd => bindArgs fd ⟨(List.range r.2.1.length).map g, []⟩) = tabL.map (fun r => (fdAt (KK w) r.1).map fun fd => pure ((pNs fd).zip ((List.range r.2.1.length).map g))) := by kernel_rfl
theorem vs_eq (vs : List Value) : vs = (List.range vs.length).map fun i => vs.getD i .none := by
  apply List.ext_getElem
  · rw [List.length_map, List.length_range]
  · intro i h1 h2
    rw [List.getElem_map, List.getElem_range, List.getD_eq_getElem?_getD, List.getElem?_eq_getElem h1]
    rfl
theorem findT_mem : ∀ {l : List (Nat × List (List Nat) × List XS)} {a : Nat} {p}, findT a l = some p → (a, p) ∈ l
  | (b, p') :: r, a, p, h => by
    replace h : (if a = b then some p' else findT a r) = some p := h
    by_cases e : a = b
    · rw [if_pos e] at h; cases h; subst e; exact .head _
    · rw [if_neg e] at h; exact .tail _ (findT_mem h)
theorem map_eq_mem {α β : Type} {f g : α → β} : ∀ {l : List α}, l.map f = l.map g → ∀ x ∈ l, f x = g x
  | a :: l, h, x, hx => by
    rw [List.map_cons, List.map_cons] at h
    injection h with h1 h2
    rcases List.mem_cons.mp hx with rfl | hx
    · exact h1
    · exact map_eq_mem h2 x hx
theorem tab_ok1 {c : Cx} {w : World} (hK : c.K = KK w) : TabOk c T1 gl0 "RunFault" := fun a ps b h => by
  have hm := findT_mem h
  obtain ⟨fd, hl, e⟩ := ob_inv (map_eq_mem (tab_eq w) _ hm)
  obtain ⟨body, hb, e⟩ := ob_inv e
  obtain ⟨b', htr, e⟩ := ob_inv e
  obtain ⟨hc, e⟩ := og_inv e
  obtain ⟨rfl, rfl⟩ := Prod.mk.inj e
  rw [← hK] at hc hl
  refine ⟨_, _, _, _, _, _, _, 60, chk_ok hl (stB_inv hb) hc fun vs hv => ?_, rfl, htr⟩
  have hg := map_eq_mem (bind_all w fun i => vs.getD i .none) _ hm
  rw [← hK] at hg
  dsimp only at hg
  rw [hl, List.length_map, ← hv, ← vs_eq] at hg
  exact Option.some.inj hg
end
section
open PySem PySem.W PyProof.Rows PySem.Calls
/-! ### the facts of the classes -/
theorem own_b (w : World) : (clsNos.all fun C => plainGet (KK w) C "" && (hasDictIn (KK w) C && plainOver (KK w) C)) = true := by kernel_rfl
theorem own_s (w : World) : clsNos.map (fun C => findIn (KK w) (.ref C) "__setattr__") = clsNos.map fun _ => some (some (.builtin "object.__setattr__")) := by kernel_rfl
theorem att_b (w : World) : clsNos.map (fun C => attrNames.map fun nm => (findIn (KK w) (.ref C) ⟨nm.toArray⟩, takerIn (KK w) C ⟨nm.toArray⟩)) = clsNos.map fun _ => attrNames.map fun _ => (some none, some none) := by kernel_rfl
theorem mt_1 (w : World) : findIn (KK w) (.ref 1002) ⟨[108, 111, 97, 100].toArray⟩ = some (some (.ref 985)) ∧ isFn (KK w) (.ref 985) = true ∧ keepIn (KK w) (.ref 985) = true := ⟨by kernel_rfl, by kernel_rfl, by kernel_rfl⟩
theorem mt_2 (w : World) : findIn (KK w) (.ref 1002) ⟨[115, 116, 111, 114, 101].toArray⟩ = some (some (.ref 992)) ∧ isFn (KK w) (.ref 992) = true ∧ keepIn (KK w) (.ref 992) = true := ⟨by kernel_rfl, by kernel_rfl, by kernel_rfl⟩
theorem mem_of {α : Type} [BEq α] [LawfulBEq α] {l : List α} {a : α} (h : l.contains a = true) : a ∈ l := List.contains_iff_mem.mp h
theorem meth_inv {C : Nat} {nm : List Nat} {f : Addr} (h : methNo C nm = some f) : C = 1002 ∧ ((nm = [108, 111, 97, 100] ∧ f = 985) ∨ (nm = [115, 116, 111, 114, 101] ∧ f = 992)) := by
  obtain ⟨h1, h⟩ := og_inv' h
  by_cases h2 : nm = [108, 111, 97, 100]
  · rw [if_pos h2] at h; exact ⟨h1, .inl ⟨h2, (Option.some.inj h).symm⟩⟩
  · rw [if_neg h2] at h
    obtain ⟨h3, h⟩ := og_inv' h
    exact ⟨h1, .inr ⟨h3, (Option.some.inj h).symm⟩⟩
theorem cx_ok {c : Cx} {w : World} (hK : c.K = KK w) (hcr : ∀ I a ws, c.CR I a ws → ∃ o fd, (a, o) ∈ I ∧ o.data = .func fd) : CxOk c where
  own := fun C hC => by
    rw [hK]
    have := List.all_eq_true.mp (own_b w) C (mem_of hC)
    rw [Bool.and_eq_true, Bool.and_eq_true] at this
    exact ⟨this.1, this.2.1, map_eq_mem (own_s w) _ (mem_of hC), this.2.2⟩
  att := fun C nm hC hn => by
    rw [hK]
    exact Prod.mk.inj (map_eq_mem (map_eq_mem (att_b w) _ (mem_of hC)) _ (mem_of hn))
  mt := fun C nm f h => by
    rw [hK]
    obtain ⟨rfl, ⟨rfl, rfl⟩ | ⟨rfl, rfl⟩⟩ := meth_inv h
    · exact ⟨by decide, mt_1 w⟩
    · exact ⟨by decide, mt_2 w⟩
  cr := hcr

/-! ### the names of the module -/
/-- without its token -/
noncomputable def strip : Option (Option Value) → Option (Option Value)
  | some (some (.int i _)) => some (some (.int i 0))
  | x => x
theorem strip_inv (x : Option (Option Value)) : strip x = x ∨ ∃ i t, x = some (some (.int i t)) := by
  rcases x with _ | _ | v
  · exact .inl rfl
  · exact .inl rfl
  · cases v with
    | int i t => exact .inr ⟨i, t, rfl⟩
    | _ => exact .inl rfl
noncomputable def gvV : GV → Option (Option (Option Value))
  | .av (.con a) => some (some (some (.ref a)))
  | .av (.int i) => some (some (some (.int i 0)))
  | .bi _ => some (some none)
  | _ => none
noncomputable def biB (r : List Nat × GV) : Bool := match r.2 with
  | .bi b => r.1 == cp b.name
  | _ => true
theorem gl_b (w : World) : glT.map (fun r => some (strip (nsIn (KK w) mainGlobals ⟨r.1.toArray⟩))) = glT.map fun r => gvV r.2 := by kernel_rfl
theorem gl_n : glT.all biB = true := by kernel_rfl
theorem nought_b (w : World) : nsIn (KK w) mainGlobals ⟨nmNought.toArray⟩ = some (some (.ref 61)) ∧ (KK w).lookup 61 = some ⟨.type "tuple", none, .seq #[.int 0 264, .int 0 265] 0, #[]⟩ := ⟨by kernel_rfl, by kernel_rfl⟩
theorem look_mem {α : Type} {x : List Nat} {v : α} {l : List (List Nat × α)} (h : look x l = some v) : (x, v) ∈ l := by
  induction l with
  | nil => exact nomatch h
  | cons p r ih =>
    unfold look at h
    by_cases e : x = p.1
    · rw [if_pos e] at h
      obtain rfl := Option.some.inj h
      rw [e]; exact .head _
    · rw [if_neg e] at h
      exact .tail _ (ih h)
theorem gl_ok {c : Cx} {w : World} (hK : c.K = KK w) (hb : c.K.In c.base) : GlR c gl0 := fun x g h => by
  have en : (⟨(cp x).toArray⟩ : Str) = x := by simp [cp]
  unfold gl0 at h
  by_cases hn : cp x = nmNought
  · rw [if_pos hn] at h
    obtain rfl := Option.some.inj h
    obtain ⟨h1, h2⟩ := nought_b w
    rw [← hn, en] at h1
    exact ⟨_, by rw [hK]; exact h1, fun W hW => .tup ⟨_, _, .inr (by rw [hW]; exact hb _ _ (by rw [hK]; exact h2)), rfl, rfl⟩ (.cons .int (.cons .int .nil))⟩
  · rw [if_neg hn] at h
    have hm := look_mem h
    have e := map_eq_mem (gl_b w) _ hm
    have e' := List.all_eq_true.mp gl_n _ hm
    dsimp only at e
    rw [en, ← hK] at e
    rcases strip_inv (nsIn c.K mainGlobals x) with hs | ⟨i, t, hs⟩
    · rw [hs] at e
      cases g with
      | bi b =>
        have e2 : cp x = cp b.name := eq_of_beq e'
        exact ⟨by rw [← en, e2]; simp [cp], Option.some.inj e⟩
      | av a => cases a with
        | con a => exact ⟨_, Option.some.inj e, fun W _ => .con⟩
        | int i => exact ⟨_, Option.some.inj e, fun W _ => .int⟩
        | _ => exact no_some e.symm
    · rw [hs] at e
      cases g with
      | bi b => cases Option.some.inj e
      | av a => cases a with
        | con a => cases Option.some.inj e
        | int j =>
          obtain rfl : i = j := (Value.int.inj (Option.some.inj (Option.some.inj (Option.some.inj e)))).1
          exact ⟨_, hs, fun W _ => .int⟩
        | _ => exact no_some e.symm
end
section
open PySem PySem.W PyProof.Rows PySem.Calls
set_option maxHeartbeats 2000000
noncomputable def refV : Value → Option Addr
  | .ref b => some b
  | _ => none
theorem refV_inv {v : Value} {a : Addr} (h : refV v = some a) : v = .ref a := by
  cases v <;> first | exact no_some h | exact congrArg Value.ref (Option.some.inj h)
/-- the class with defaults -/
noncomputable def limTr (K : Frag) : Option (List Str × List XS) := (fdAt K 1192).bind fun fd => (stB fd.body).bind fun body => (mapO (trS gl0 "RunFault" 60 fd.scope.names) body).bind fun b => og (FnChk K fd ∧ refV fd.defaults = some 1185 ∧ fd.params.posonlyargs.isEmpty = true ∧ fd.params.kwonlyargs.isEmpty = true ∧ fd.params.vararg.isNone = true ∧ fd.params.kwarg.isNone = true) (pNs fd, b)
noncomputable def limNs : List Str := ["self", "width", "real_digits", "double_digits", "top_exponent", "steps", "continuations", "columns", "depth"]
theorem lim_eq (w : World) : limTr (KK w) = some (limNs, b_1192) := by kernel_rfl
theorem lim_tup (w : World) : (KK w).lookup 1185 = some ⟨.type "tuple", none, .seq #[.int 32 1894, .int 7 1895, .int 15 1896, .int 38 1897, .int 1000000 1898, .int 19 1899, .int 72 1900, .int 40 1901] 0, #[]⟩ := by kernel_rfl
theorem mk_1002 {c : Cx} {w : World} (hK : c.K = KK w) : MakeOk c.K 1002 978 := by rw [hK]; exact ⟨by kernel_rfl, by kernel_rfl, by kernel_rfl, by kernel_rfl⟩
theorem mk_1093 {c : Cx} {w : World} (hK : c.K = KK w) : MakeOk c.K 1093 1090 := by rw [hK]; exact ⟨by kernel_rfl, by kernel_rfl, by kernel_rfl, by kernel_rfl⟩
theorem mk_1195 {c : Cx} {w : World} (hK : c.K = KK w) : MakeOk c.K 1195 1192 := by rw [hK]; exact ⟨by kernel_rfl, by kernel_rfl, by kernel_rfl, by kernel_rfl⟩
theorem lim_bind {s : Shared} {fd : FuncData} {o : Obj} {n : Nat} {x a b d e u0 u1 u2 u3 u4 u5 u6 u7 : Value} (p1 : fd.params.posonlyargs = []) (p2 : fd.params.kwonlyargs = []) (p3 : fd.params.vararg = none) (p4 : fd.params.kwarg = none) (hn : fd.params.args.map (·.arg) = limNs)
    (hd : fd.defaults = .ref 1185) (ho : s.heap.get? 1185 = some o) (hs : o.data = .seq #[u0, u1, u2, u3, u4, u5, u6, u7] n) :
    BindsTo s fd ⟨[x, a, b, d, e], []⟩ (limNs.zip [x, a, b, d, e, u4, u5, u6, u7]) := by
  obtain ⟨a1, a2, ⟨q1, q2, q3, q4, q5, q6, q7⟩, a4, a5, a6, a7, a8, a9, a10, a11, a12, a13, a14, a15⟩ := fd
  obtain rfl : q1 = _ := p1
  obtain rfl : q4 = _ := p2
  obtain rfl : q3 = _ := p3
  obtain rfl : q6 = _ := p4
  obtain rfl : a8 = _ := hd
  refine BindsTo.of_defaults rfl ho hs (k := ?_) ?_ ?_
  rotate_left
  · unfold bindArgs
    dsimp only
    rw [hn]
    rfl
  · rfl
end
section
open PySem PySem.W PyProof.Rows PySem.Calls
set_option maxHeartbeats 2000000
noncomputable def Cz : Ctr := fun _ _ _ _ _ => False
theorem cz_ok {c : Cx} {n : Nat} : SndC c Cz n := ⟨fun _ _ _ _ _ _ _ _ _ _ _ _ _ _ _ _ h => h.elim, fun _ _ _ _ _ h => h.elim⟩
section
variable {c : Cx} {C : Ctr} {n : Nat} {fb : FB} {W W' : GW} {σ : St} {s : Shared} {w : World}
theorem snd_lim (hK : c.K = KK w) (co : CxOk c) (hg : GlR c gl0) (hr : RaiseOk c 0 "RunFault") {args : List AV} {vs : List Value} {ex : St → Prop} {Q : KE} {Qc Ec : Value → Shared → Prop} (fo : FB.ok fb c (n + 1)) (R : RelF c fb W σ s) (V : VRs c.CR W args vs)
    (E : runF Cz p_1192 b_1192 (.obj σ.length :: (args ++ [.int 1000000, .int 19, .int 72, .int 40])) (σ ++ [.inst 1195 (σ.length + 1), .attrs []]) ex fun v σ' => v = .none ∧ Q (.obj σ.length) σ') (hq : PQ c fb W Q Qc) (hx : PX c fb W ex Ec) :
    codeAny (model c.prog c.w) fb.A (.call (.ref 1195) ⟨vs, []⟩) (RetP Qc Ec) s := by
  have hlen : (AV.obj σ.length :: (args ++ [.int 1000000, .int 19, .int 72, .int 40])).length = 9 := E.1
  simp only [List.length_cons, List.length_append, List.length_nil] at hlen
  have hv := V.length
  refine snd_make0 (mk_1195 hK) fo R V hq hx fun fb₁ W₁ s₁ x Qc₁ f1 hd1 hu1 R1 V1 q1 x1 => ?_
  obtain ⟨fd, hl, e⟩ := ob_inv (lim_eq w)
  obtain ⟨body, hb, e⟩ := ob_inv e
  obtain ⟨b', htr, e⟩ := ob_inv e
  obtain ⟨⟨hc, hd, p1, p2, p3, p4⟩, e⟩ := og_inv e
  obtain ⟨hn, rfl⟩ := Prod.mk.inj e
  rw [← hK] at hl hc
  obtain ⟨oc, od, osl, hl⟩ := fdAt_inv hl
  have ef := fd_of hc.1.1 hc.1.2.1 hc.1.2.2.1 (stB_inv hb)
  have hk := chk_kind hc
  obtain ⟨⟨_, _, _, hcd⟩, _, e9, e10, e11, e12, e13⟩ := hc
  have e13 := eq_of_beq e13
  have ht := lim_tup w
  have hla : args.length = 4 := by omega
  obtain ⟨y0, r0, e0, y1, r1⟩ := V1.cons_inv
  obtain ⟨rfl, rfl⟩ := List.cons.inj e0
  have r0 := V
  obtain ⟨b0, l0, rfl⟩ := List.exists_cons_of_length_eq_add_one hla
  obtain ⟨b1, l1, rfl⟩ := List.exists_cons_of_length_eq_add_one (Nat.succ.inj hla)
  obtain ⟨b2, l2, rfl⟩ := List.exists_cons_of_length_eq_add_one (Nat.succ.inj (Nat.succ.inj hla))
  obtain ⟨b3, l3, rfl⟩ := List.exists_cons_of_length_eq_add_one (Nat.succ.inj (Nat.succ.inj (Nat.succ.inj hla)))
  obtain rfl := List.length_eq_zero_iff.mp (Nat.succ.inj (Nat.succ.inj (Nat.succ.inj (Nat.succ.inj hla))))
  obtain ⟨v0, _, rfl, y2, r2⟩ := r1.cons_inv
  obtain ⟨v1, _, rfl, y3, r3⟩ := r2.cons_inv
  obtain ⟨v2, v3, rfl, y4, y5⟩ := r3.two_inv
  refine snd_fnB (n := 0) (ps := limNs) (xs := b_1192) (vs := [.ref x, v0, v1, v2, v3, .int 1000000 1898, .int 19 1899, .int 72 1900, .int 40 1901]) (hl.trans (congrArg (fun x => some (⟨oc, od, .func x, osl⟩ : Obj)) ef)) hcd (fun y hy => hk y (by rw [hn]; exact hy)) e9 (hn ▸ e10) e11 e12 e13 (fun L => ss_list ((mapO_F2 htr).imp fun x y hxy => ts_ok co cz_ok hg hr 60 _ _ _ _ (kok_env e13) e13 hxy))
    f1 (by omega) (by omega) R1 ?_ (by rw [← ef]; exact lim_bind (List.isEmpty_iff.mp p1) (List.isEmpty_iff.mp p2) (Option.isNone_iff_eq_none.mp p3) (Option.isNone_iff_eq_none.mp p4) hn (refV_inv hd) ((f1.X.keeps R1.F.keep) _ _ (by rw [hK]; exact ht)) rfl) E q1 x1
  exact .cons y1 (.cons y2 (.cons y3 (.cons y4 (.cons y5 (.cons .int (.cons .int (.cons .int (.cons .int .nil))))))))
end
end
section
open PySem PySem.W PyProof.Rows PySem.Calls
set_option maxHeartbeats 2000000
noncomputable abbrev n_run : List Nat := [114, 117, 110]
noncomputable abbrev n_one : List Nat := [111, 110, 101]
noncomputable abbrev n_told : List Nat := [116, 111, 108, 100]
noncomputable def tellB : List XS := [.expr (.meth (.name n_told) .append [(.sub (.name n_one) (.const (.int (2))))]), .ret (.sub (.name n_one) (.const (.int (3))))]
/-- the def within the law -/
structure TellOk (params : Arguments) (body : List Stmt) (scope : Scope) : Prop where
  bd : ∀ qual cl doc pm an cdv ct (u1 u2 : Value), bindArgs (fnX "tell" qual params body scope cl .none .none doc pm an cdv ct) ⟨[u1, u2], []⟩ = pure ([(("run" : Str)), "one"].zip [u1, u2])
  names : scope.names = [(("run" : Str), NameKind.local), (("one" : Str), NameKind.local), (("told" : Str), NameKind.free)]
  co : scope.isCoroutine = false
  gen : scope.isGenerator = false
  kind : scope.kind = .function
  tr : mapO (trS gl0 "RunFault" 60 scope.names) body = some tellB
inductive CRt (params : Arguments) (body : List Stmt) (scope : Scope) : CloRel
  | mk {I a qual doc pm c' ctv k oc vs t ok w0} : (a, fnMade "tell" qual params body scope [(("told" : Str), k)] doc pm c' ctv) ∈ I → (c', oc) ∈ I → oc.data = .fields vs → vs[1]? = some (.str qual t) → (k, ok) ∈ I → ok.data = .cell (some w0) → CRt params body scope I a [w0]
theorem crt_mono {params body scope} : CloMono (CRt params body scope) := fun I I' v ws h hc => by
  cases hc with | mk h1 h2 h3 h4 h5 h6 => exact .mk (h _ h1) (h _ h2) h3 h4 (h _ h5) h6
theorem crt_fd {params body scope} : ∀ I a ws, CRt params body scope I a ws → ∃ o fd, (a, o) ∈ I ∧ o.data = .func fd := fun I a ws hc => by
  cases hc with | mk h1 => exact ⟨_, _, h1, rfl⟩
theorem tell_ev {C : Ctr} {ex : St → Prop} {R : KE} {N : Loc → St → Prop} {x a b m v : AV} {r : List AV} {i : Nat} {σ : St} {l : List AV} (h : σ[i]? = some (.list l)) (hl : l.length ≤ 1000000) (hq : R v (σ.set i (.list (l ++ [m])))) :
    evSs C ex R 60 tellB [(n_one, .tup (a :: b :: m :: v :: r)), (n_run, x), (n_told, .obj i)] σ N := by
  conv => whnf
  have p1 : osB (fun _ : List AV => True) ((σ[i]?).bind asList) := osB_i (by rw [h]; rfl) trivial
  refine ⟨p1, ?_⟩
  conv => whnf
  rw [h]
  refine ⟨hl, ?_⟩
  conv => whnf
  refine ⟨rfl, ?_⟩
  conv => whnf
  exact hq
section
variable {c : Cx} {C : Ctr} {n : Nat} {fb : FB} {W W' : GW} {σ : St} {s : Shared} {params : Arguments} {body : List Stmt} {scope : Scope}
theorem snd_tell (to : TellOk params body scope) (hcr : c.CR = CRt params body scope) (co : CxOk c) (sn : SndC c C n) (hg : GlR c gl0) (hr : RaiseOk c n "RunFault") {f : Value} {i : Nat} {x a b m v : AV} {r : List AV} {l : List AV} {vs : List Value} {Q : KE} {Qc Ec : Value → Shared → Prop}
    (fo : FB.ok fb c (n + 1)) (R : RelF c fb W σ s) (hv : VR c.CR W (.clo [.obj i]) f) (V : VRs c.CR W [x, .tup (a :: b :: m :: v :: r)] vs) (h : σ[i]? = some (.list l)) (hl : l.length ≤ 1000000) (q0 : Q v (σ.set i (.list (l ++ [m]))))
    (hq : PQ c fb W Q Qc) : codeAny (model c.prog c.w) fb.A (.call f ⟨vs, []⟩) (RetP Qc Ec) s := by
  cases hv with
  | @clo _ ws fa hc hw =>
    rw [hcr] at hc
    cases hc with | @mk _ _ qual doc pm c' ctv k oc cvs t ok w0 h1 h2 h3 h4 h5 h6 =>
    obtain ⟨_, e, hw0⟩ := hw.one_inv
    obtain rfl := (List.cons.inj e).1
    obtain ⟨u1, u2, rfl, V1, V2⟩ := V.two_inv
    have mI : ∀ p ∈ W.I, p ∈ led W fb.Hid := fun p hp => List.mem_append_right _ (List.mem_append_right _ hp)
    have hbind : BindsTo s (fnX "tell" qual params body scope [(("told" : Str), k)] .none .none doc pm none (.ref c') ctv) ⟨[u1, u2], []⟩ ([(("run" : Str)), "one"].zip [u1, u2]) :=
      .of_eq (to.bd ..)
    refine callX_plain (cl := [(("told" : Str), k)]) (L := fb.L) (m := fb.m) fo.B R.F R.N fo.lim fo.fr fo.hf fo.hk (R.N _ (mI _ h1)).1 rfl (codeRec_news R.N (mI _ h2) h3 h4) (by have := fo.dp; omega) hbind (fun y hy => ?_) (fun g L' h₁ Fg F' N' BG st lt => ?_) (fun y hy => ?_) to.co to.gen to.kind
    · rw [to.names]
      simp only [List.zip_cons_cons, List.zip_nil_right, List.mem_cons, List.not_mem_nil, or_false] at hy
      rcases hy with rfl | rfl <;> rfl
    rotate_left
    · rw [to.names] at hy
      simp only [List.mem_cons, List.not_mem_nil, or_false] at hy
      rcases hy with rfl | rfl | rfl <;> decide
    let ev : Env := envX qual scope L' fa (.ref c') [(("told" : Str), k)]
    have kr : ev.kindOf "run" = some .local := by show scope.names.lookup _ = _; rw [to.names]; rfl
    have ko : ev.kindOf "one" = some .local := by show scope.names.lookup _ = _; rw [to.names]; rfl
    have kt : ev.kindOf "told" = some .free := by show scope.names.lookup _ = _; rw [to.names]; rfl
    let fb' : FB := { A₀ := fb.A, A := fb.A.deeper ev, outer := fb.env :: fb.outer, env := ev, h₀ := g, L := L', m := fun y => ([(("run" : Str)), "one"].zip [u1, u2]).reverse.lookup y, Hid := fb.Hid, Cel := [] }
    have fo' : FB.ok fb' c n := {
      B := BG
      X := fo.X.keeps st
      T := fo.T.keeps st
      fr := Around.frames_deeper fo.fr
      hf := rfl
      hk := to.kind
      lo := rfl
      gl := rfl
      bi := rfl
      hd := fo.hd
      dp := by show fb.A.depth + 1 + 2 * n + 8 < _; have := fo.dp; omega
      un := by show fb.A.units + 3 + 8 * n + 128 < _; have := fo.un; omega
      ce := fun p hp => absurd hp List.not_mem_nil }
    have R' : RelF c fb' W σ { s with heap := h₁, toks := s.toks + 2 } := ⟨R.toLg, F', N', ⟨R.sm.1, R.sm.2, R.sm.3⟩⟩
    have L₀ : LocF c fb' fb'.env W [(n_one, .tup (a :: b :: m :: v :: r)), (n_run, x), (n_told, .obj i)] := fun y av hy => by
      rw [look_cons] at hy
      by_cases e : y = n_one
      · rw [if_pos e] at hy; subst e; cases hy
        exact ⟨u2, V2, .loc ko rfl rfl⟩
      · rw [if_neg e, look_cons] at hy
        by_cases e : y = n_run
        · rw [if_pos e] at hy; subst e; cases hy
          exact ⟨u1, V1, .loc kr rfl rfl⟩
        · rw [if_neg e, look_cons] at hy
          by_cases e : y = n_told
          · rw [if_pos e] at hy; subst e; cases hy
            exact ⟨w0, hw0, .cell k ok (.inr ⟨kt, by decide⟩) rfl h5 h6⟩
          · rw [if_neg e] at hy; exact no_some hy
    have KO : KOk ev scope.names := ⟨to.kind, fun _ h => h, fun _ h => h, fun y hy => by
      have := mem_of_lookup hy
      rw [to.names] at this
      simp at this⟩
    have S : SS c C n ev body tellB := ss_list ((mapO_F2 to.tr).imp fun x y hxy => ts_ok co sn hg hr 60 _ _ _ _ KO to.kind hxy)
    refine S fb' 60 _ W σ _ (fun _ => False) Q (fun _ _ => False) _ _ fo' rfl R' L₀ (tell_ev h hl q0) (fun _ _ _ _ _ _ _ _ z => z.elim) (fun v₁ av σ' s' W₁ m' R₁ le V₁ q₁ => ?_) (fun _ _ _ _ _ _ _ z => z.elim)
    refine leaveK_ R₁.F R₁.N fun F₂ N₂ => ?_
    exact hq _ _ _ _ _ (⟨R₁.toLg, F₂, N₂, R₁.sm⟩ : RelF c fb W₁ σ' s') le V₁ q₁
/-- what the calls of classes and of the closure mean -/
theorem sp_ok {w : World} (hK : c.K = KK w) (to : TellOk params body scope) (hcr : c.CR = CRt params body scope) (co : CxOk c) (hg : GlR c gl0) (hr : ∀ n, RaiseOk c n "RunFault") : SpOk c Sp1 := fun C n sn => by
  refine ⟨fun fb W σ s fn f args vs ex Q Qc Ec fo R hf V E hq hx => ?_, fun a args σ ex Q E => ?_⟩
  · cases hf with
    | clo hv =>
      obtain ⟨i, x, a, b, m, v, r, l, rfl, rfl, e, h1, h2⟩ := cloS_inv E
      exact snd_tell to hcr co sn hg (hr n) fo R hv V e h1 h2 hq
    | @top a =>
      rcases topS_inv E with ⟨rfl, E⟩ | ⟨rfl, E⟩ | ⟨rfl, E⟩
      · exact snd_make (mk_1002 hK) sn fo R V E hq hx
      · exact snd_make (mk_1093 hK) sn fo R V E hq hx
      · exact snd_lim hK co hg (hr 0) fo R V E hq hx
  · rcases topS_inv E with ⟨rfl, _⟩ | ⟨rfl, _⟩ | ⟨rfl, _⟩
    · exact (mk_1002 hK).keep
    · exact (mk_1093 hK).keep
    · exact (mk_1195 hK).keep
end
end
section
open PySem PySem.W PyProof.Rows PySem.Calls
set_option maxHeartbeats 2000000
theorem rf_1 (w : World) : nsIn (KK w) mainGlobals "RunFault" = some (some (.ref 51)) := by kernel_rfl
theorem rf_2 (w : World) : keepIn (KK w) (.ref 51) = true := by kernel_rfl
theorem rf_3 (w : World) : findIn (KK w) (.ref 51) "__setattr__" = some (some (.builtin "object.__setattr__")) := by kernel_rfl
theorem rf_4 (w : World) : findIn (KK w) (.ref 51) "text" = some none := by kernel_rfl
theorem rf_5 (w : World) : nsIn (KK w) mainGlobals "Exception" = some none := by kernel_rfl
theorem rf_6 (w : World) : findIn (KK w) (.ref 51) "__init__" = some (some (.ref 35)) := by kernel_rfl
/-- the base's __init__ -/
noncomputable def rfB : List Stmt := [.Expr (.Call (.Attribute (.Name "Exception" ⟨8, 8, 8, 17⟩) "__init__" ⟨8, 8, 8, 26⟩) [.Name "self" ⟨8, 27, 8, 31⟩, .Name "text" ⟨8, 33, 8, 37⟩] [] ⟨8, 8, 8, 38⟩) ⟨8, 8, 8, 38⟩, .Assign [.Attribute (.Name "self" ⟨9, 8, 9, 12⟩) "text" ⟨9, 8, 9, 17⟩] (.Name "text" ⟨9, 20, 9, 24⟩) ⟨9, 8, 9, 24⟩]
noncomputable def rfFn (K : Frag) : Option (Option (List Stmt) × List Str × List (Str × NameKind) × Option Value) := (fdAt K 35).bind fun fd => og (FnChk K fd) (stB fd.body, pNs fd, fd.scope.names, (K.lookup 35).map (·.cls))
theorem rf_fn (w : World) : rfFn (KK w) = some (some rfB, [(("self" : Str)), "text"], [(("self" : Str), .local), (("text" : Str), .local), (("Exception" : Str), .globalImplicit)], some (.type "function")) := by kernel_rfl
theorem rf_bind (w : World) (g : Nat → Value) : (fdAt (KK w) 35).map (fun fd => bindArgs fd ⟨(List.range 2).map g, []⟩) = some (pure ([(("self" : Str)), "text"].zip ((List.range 2).map g))) := by kernel_rfl
noncomputable def rfS (w : World) (i : Nat) : Option Value := (((KK w).lookup 51).getD default).slots.getD i none
noncomputable def rfC (w : World) : Obj := ((KK w).lookup 51).getD default
theorem rf_cls (w : World) : (KK w).lookup 51 = some (excClassObj "RunFault" "RunFault" 51 50 [.ref 38] [.ref 38, .type "Exception", .type "BaseException", .type "object"] true [] [] false none (rfC w).dict (rfS w 0) (rfS w 1) (rfS w 2) (rfS w 3) (rfS w 5) "Exception.__new__") := by kernel_rfl
theorem rf_ok {c : Cx} {w : World} (hK : c.K = KK w) (hR : c.RF = 51) : RfOk c "RunFault" := by
  refine ⟨by decide, by rw [hR, hK]; exact rf_1 w, ?_, by rw [hR, hK]; exact rf_2 w, by rw [hR, hK]; exact rf_3 w, by rw [hR, hK]; exact rf_4 w, by rw [hK]; exact rf_5 w, ?_⟩
  · have h := rf_cls w
    rw [← hK] at h
    apply RfCls.mk
    rw [hR]
    exact h
  · obtain ⟨fd, hl, h⟩ := ob_inv (rf_fn w)
    obtain ⟨hc, h⟩ := og_inv h
    obtain ⟨h1, h⟩ := Prod.mk.inj h
    obtain ⟨h2, h⟩ := Prod.mk.inj h
    obtain ⟨h3, h4⟩ := Prod.mk.inj h
    have hb := rf_bind w
    rw [← hK] at hl hc h4 hb
    have F := chk_ok hl (stB_inv h1) hc fun vs hv => by
      rw [h2] at hv ⊢
      have e := hb fun i => vs.getD i .none
      rw [hl, show 2 = vs.length from hv.symm, ← vs_eq] at e
      exact Option.some.inj e
    rw [h2] at F
    exact ⟨35, _, _, _, _, _, _, _, _, _, _, _, _, _, _, _, by rw [hR, hK]; exact rf_6 w, F, rfl, h4, h3⟩
end
section
open PySem PySem.W PyProof.Rows PySem.Calls
set_option maxHeartbeats 2000000
section
variable {c : Cx} {C : Ctr} {n : Nat} {fb : FB} {W W' : GW} {σ : St} {s : Shared} {RF : Str} {ρ : Loc}
/-- the own exception is caught in the law's frame -/
theorem catch_rf (ro : RfOk c RF) (f : FB.ok fb c n) (hb : fb.h₀ = c.base) {v : Value} (R : Rx c fb W σ v s) (hkR : fb.env.kindOf RF = some .globalImplicit) {b₀ : Stmt} {np pos : Pos} {Q : Flow → Shared → Prop} {E : Value → Shared → Prop}
    (h : ∀ e h', RelF c fb W σ { s with heap := h' } → wpAny (model c.prog c.w) (fb.A.mark (some (.ref e))) (execs [b₀] fb.env) Q (fun _ _ => False) { s with heap := h' }) :
    wpAny (model c.prog c.w) fb.A (noteFrame v fb.env) (fun _ s₂ => wpAny (model c.prog c.w) fb.A (setFlight v none) (fun _ s₃ => wpAny (model c.prog c.w) fb.A (handleBy v fb.env [.ExceptHandler (some (.Name RF np)) none [b₀] pos]) Q E s₃) E s₂) E s := by
  obtain ⟨e, rfl, w⟩ := R.way
  refine way_note (p := 0) (k := 0) f w f.hf fun h₁ g B a0 F x1 x2 x3 => ?_
  refine fly_any (s := { s with heap := h₁ }) x2 fun h₂ y1 y2 => ?_
  have rel : ∀ fl h', AnyW B (fb.env :: fb.outer) e (.ref c.RF) a0 fl h' → g.UpToSlots h' → RelF c fb W σ { s with heap := h' } := fun fl h' z hu => by
    have hL : B.get? fb.L = none := by
      obtain ⟨_, ⟨L', _, hf', hn', _⟩, _⟩ := z.2.2.1
      obtain rfl : fb.L = L' := Option.some.inj (f.hf.symm.trans hf')
      exact hn'
    refine ⟨R.toLg, F.of_stays (fun b o q => z.1 _ _ (x1.1 _ _ (by rw [← hb]; exact q))) hu, fun q hq => ⟨z.1 _ _ (x1.2 q hq).1, fun y => ?_, by rw [hb]; exact (x1.2 q hq).2⟩, ⟨R.sm.1, R.sm.2, R.sm.3⟩⟩
    have := (x1.2 q hq).1
    rw [y, hL] at this; cases this
  have R2 := rel _ h₂ y1 (x3.trans y2)
  obtain ⟨nm, q, N, bs, sn, sub, ab, col, dd, k0, k1, k2, k3, k5, P, hcl⟩ := ro.cls
  refine wpAny_handleBy_cons (codeAny_handlers_test (Name_function_global f.hk hkR (loadGlobal_global (by rw [f.gl]; exact f.T.g.keeps R2.F.keep) (mg_of f.X f.T.g ro.glob) ?_) ro.dbg)) (by intro q; cases q)
  obtain ⟨_, _, _, oe, vs, T, oT, ts, he, ⟨hcls, h0⟩, r⟩ := id y1
  refine wpAny_excMatches_sub_self ((f.X.keeps R2.F.keep) _ _ hcl) he hcls rfl (codeAny_handlers_suite ?_)
  refine fly_any (s := { s with heap := h₂ }) (f := none) y1 fun h₃ z1 z2 => ?_
  exact wpAny_mono (h e h₃ (rel _ h₃ z1 ((x3.trans y2).trans z2))) (fun _ _ x => x) fun _ _ x => x.elim
/-- what the handler answers -/
theorem exc_ret {A : Around} (f : FB.ok fb c n) (hu : A.units = fb.A.units) (R : RelF c fb W σ s) (L : LocF c fb fb.env W ρ) {l : List AV} {xs : List Int} (hd : look (cp "due") ρ = some .none) (ht : look (cp "told") ρ = some (.obj 7)) (hl : look (cp "log") ρ = some (.obj 6))
    (h7 : σ[7]? = some (.list l)) (h6 : σ[6]? = some (.list l)) (hi : isInts l = some xs) {kk : Nat} {q1 q2 q3 q4 q5 q6 q7 q8 : Pos} {Q : Flow → Shared → Prop} {E : Value → Shared → Prop} (hq : ∀ s', RelF c fb W σ s' → Q (.ret (.bool true)) s') :
    wpAny (model c.prog c.w) A (execs [.Return (some (.BoolOp .And [.Compare (.Name "due" q1) [.Is] [.Constant .none kk q2] q3, .Compare (.Name "told" q4) [.Eq] [.Name "log" q5] q6] q7)) q8] fb.env) Q E s := by
  have e3 : ∀ x : Str, (⟨(cp x).toArray⟩ : Str) = x := fun x => by simp [cp]
  obtain ⟨vd, V1, N1⟩ := L _ _ hd
  obtain ⟨vt, V2, N2⟩ := L _ _ ht
  obtain ⟨vl, V3, N3⟩ := L _ _ hl
  rw [e3] at N1 N2 N3
  have := V1.none_inv; subst this
  obtain ⟨x, o, rfl, a1, a2, a3, a4⟩ := R.ref V2 h7
  obtain ⟨y, o', rfl, b1, b2, b3, b4⟩ := R.ref V3 h6
  cases a2 with | list V4 => cases b2 with | list V5 =>
  have rd : ∀ {x : Str} {v : Value} {pos : Pos} {Q' : Value → Shared → Prop}, NameAt fb.env fb.L fb.m (fb.Cel ++ W.I) x v → (x == ("__debug__" : Str)) = false → Q' v s → wpAny (model c.prog c.w) A (eval (.Name x pos) fb.env) Q' E s := fun h1 h2 h3 => name_read R f.hk (h1.mono f.cel) h2 h3
  refine wpAny_execs_cons (wpAny_Return_some (BoolOp_and (wpAny_Compare1 (rd N1 (by decide) (wpAny_Constant_none (is_none ?_))))))
  refine wpAny_truthy_bool ?_
  rw [if_pos (by rfl)]
  refine BoolOp_one (wpAny_Compare1 (rd N2 (by decide) (rd N3 (by decide) ?_)))
  refine ke_eq_ints ⟨_, a4, rfl, _, rfl⟩ ⟨_, b4, rfl, _, rfl⟩ (isInts_are hi V4) (isInts_are hi V5) ?_ ?_
  · have := f.un
    rw [← hu] at this
    omega
  · rw [show decide (xs = xs) = true by simp]
    exact hq _ R
end
end
section
open PySem PySem.W PyProof.Rows PySem.Calls
set_option maxHeartbeats 2000000
section
variable {M : Model} {A : Around} {env : Env} {E : Value → Shared → Prop} {rest : List Stmt} {Q : Flow → Shared → Prop}
theorem wp_execs_append {Γ : Ctx} (hΓ : Γ.In A) : ∀ (st : List Stmt) (p : Pos) (s : Shared), Sem.wp M Γ (execs st env) (fun f _ s' => match f with | .next => wpAny M A (execs rest env) Q E s' | f => Q f s') (fun e _ s' => E e s') p s →
    Sem.wp M Γ (execs (st ++ rest) env) (fun f _ s' => Q f s') (fun e _ s' => E e s') p s
  | [], p, s, h => h Γ p hΓ
  | x :: st, p, s, h => by
    rw [execs_cons, Sem.wp_bind'] at h
    rw [List.cons_append, execs_cons, Sem.wp_bind']
    refine Sem.wp_mono M Γ _ (fun f p' s' h' => ?_) (fun _ _ _ h' => h') _ _ h
    cases f <;> first | exact wp_execs_append hΓ st p' s' h' | exact h'
theorem wpAny_execs_append {st : List Stmt} {s : Shared} (h : wpAny M A (execs st env) (fun f s' => match f with | .next => wpAny M A (execs rest env) Q E s' | f => Q f s') E s) : wpAny M A (execs (st ++ rest) env) Q E s := fun Γ p hΓ => wp_execs_append hΓ st p s (h Γ p hΓ)
end
section
variable {c : Cx} {C : Ctr} {n : Nat} {fb : FB} {W W' : GW} {σ : St} {s : Shared} {ρ : Loc}
theorem RelF.toI {k : Addr} {o : Obj} (R : RelF c (fb.hid (k, o)) W σ s) : RelF c fb { W with I := (k, o) :: W.I } σ s := Rel.imm (tk := s.toks) (RelF.unhid R) R.F R.list R.toLg.notIn
theorem snd_two (co : CxOk c) (sn : SndC c C n) (hg : GlR c gl0) {sc : List (Str × NameKind)} (ko : KOk fb.env sc) {k : Addr} {oc : Obj} {kk k2 : Nat} {p1 p2 p3 p4 p5 p6 pos : Pos} {Qc : Flow → Shared → Prop} {Ec : Value → Shared → Prop}
    (f : FB.ok fb c n) (R : RelF c (fb.hid (k, oc)) W σ s) (L : LocF c fb fb.env W ρ) (hd : oc.data = .cell none) (hkl : fb.env.kindOf "log" = some .local) (hkt : fb.env.kindOf "told" = some .cell) (hct : fb.env.cells.lookup ("told" : Str) = some k)
    (hq : ∀ s' m' W' o' w0, RelF c (fb.setm m') W' (σ ++ [.list [], .list []]) s' → W.Le W' → LocF c (fb.setm m') fb.env W' ((cp "told", .obj (σ.length + 1)) :: (cp "log", .obj σ.length) :: ρ) → (k, o') ∈ W'.I → o'.data = .cell (some w0) → VR c.CR W' (.obj (σ.length + 1)) w0 → Qc .next s') :
    wpAny (model c.prog c.w) fb.A (exec (.Assign [.Tuple [.Name "log" p1, .Name "told" p2] kk p3] (.Tuple [.List [] p4, .List [] p5] k2 p6) pos) fb.env) Qc Ec s := by
  have hsw : swappedStores [.Tuple [.Name "log" p1, .Name "told" p2] kk p3] (.Tuple [.List [] p4, .List [] p5] k2 p6) fb.env = pure none := by
    unfold swappedStores
    dsimp only
    split
    · rfl
    · split
      · rfl
      · split
        · rfl
        · rename_i h
          exfalso
          apply h
          simp only [List.filterMap_cons, List.filterMap_nil, hkt]
          split <;> simp
  have S := (tr_ok co sn hg 10 sc fb.env (.Tuple [.List [] p4, .List [] p5] k2 p6) (.tup [.lst [], .lst []]) ko rfl).1
  have f' := f.hid (k, oc)
  refine Assign_Tuple (S (fb.hid (k, oc)) 10 ρ W σ s (fun _ => False) (fun v σ' => v = .tup [.obj σ.length, .obj (σ.length + 1)] ∧ σ' = σ ++ [.list [], .list []]) _ _ f' f'.ev R L ?_ (fun v av σ' s' W' R' le V q => ?_) (fun _ _ _ _ _ _ z => z.elim)) ?_ hsw
  · conv => whnf
    refine ⟨by simp, ?_⟩
    conv => whnf
    refine ⟨?_, ?_⟩ <;> simp
  · obtain ⟨rfl, rfl⟩ := q
    obtain ⟨a, ws, rfl, g1, g2⟩ := V.tup_inv
    cases g2 with | @cons _ v1 _ _ V1 g2 => cases g2 with | @cons _ v2 _ _ V2 g2 => cases g2 with | nil =>
    refine assign_Tuple_tuple f.hd (R'.isTup f.stays g1) rfl rfl fun h' hx' => ?_
    have R1 : RelF c (fb.hid (k, oc)) W' (σ ++ [.list [], .list []]) { s' with heap := h' } := R'.to (tk := s'.toks) (R'.F.extBut hx' (Nat.le_refl _)) (R'.N.extBut hx' (Nat.le_refl _))
    show wpAny _ _ (assignInOrder [assign (.Name "log" p1) fb.env, assign (.Name "told" p2) fb.env] [v1, v2]) _ _ _
    refine assignInOrder_cons (PyProof.Rows.assign_Name (snd_store (fb := fb.hid (k, oc)) f' R1 (LocF.le L R.cm le) hkl V1 fun s2 m2 R2 L2 => ?_))
    refine assignInOrder_cons (PyProof.Rows.assign_Name (wpAny_storeName_cell f.hk hkt hct ⟨oc, RelF.mem (fb := fb.setm m2) R2, hd⟩ fun h3 hv hs => assignInOrder_nil ?_))
    obtain ⟨o', e1, e2⟩ := hv
    have R3 : RelF c ((fb.setm m2).hid (k, o')) W' (σ ++ [.list [], .list []]) { s2 with heap := h3 } := RelF.rehid (fb := fb.setm m2) (tk := s2.toks) R2 hs e1
    have R4 := RelF.toI (fb := fb.setm m2) R3
    have le4 : W'.Le { W' with I := (k, o') :: W'.I } := le_imm
    refine hq _ m2 _ o' v2 R4 (le.trans le4) (fun y av hy => ?_) (.head _) e2 (V2.mono R'.cm le4)
    rw [look_cons] at hy
    by_cases e : y = cp "told"
    · rw [if_pos e] at hy
      cases hy
      subst e
      refine ⟨v2, V2.mono R'.cm le4, .cell k o' (.inl ?_) ?_ ?_ e2⟩
      · simpa [cp] using hkt
      · simpa [cp] using hct
      · exact List.mem_append_right _ (.head _)
    · rw [if_neg e] at hy
      obtain ⟨u, U1, U2⟩ := L2 _ _ hy
      exact ⟨u, U1.mono R'.cm le4, U2.mono fun p hp => (List.mem_append.mp hp).elim (List.mem_append_left _) fun h => List.mem_append_right _ (.tail _ h)⟩
  · rfl
end
end
section
open PySem PySem.W PyProof.Rows PySem.Calls
set_option maxHeartbeats 2000000
section
variable {c : Cx} {C : Ctr} {n : Nat} {fb : FB} {W W' : GW} {σ : St} {s : Shared} {ρ : Loc} {params : Arguments} {body : List Stmt} {scope : Scope}
theorem clos_told {env : Env} {k : Addr} (hn : scope.names = [(("run" : Str), NameKind.local), (("one" : Str), NameKind.local), (("told" : Str), NameKind.free)]) (hct : env.cells.lookup ("told" : Str) = some k) : closureFor scope env = pure [(("told" : Str), k)] := by
  unfold closureFor
  rw [hn]
  simp [cellOf, hct]
theorem snd_def (to : TellOk params body scope) (hcr : c.CR = CRt params body scope) (hp0 : params.defaults = []) (hp1 : params.kw_defaults = []) {pos : Pos} {P k cc a : Addr} {cn : Str} {cs : Scope} {cl : List (Str × Addr)} {Qc : Flow → Shared → Prop} {Ec : Value → Shared → Prop}
    (henv : fb.env = envX cn cs fb.L a (.ref cc) cl) (ha : annTrees params none fb.env = []) (CH : CodeHd fb.h₀ cc P) (f : FB.ok fb c n) (R : RelF c (fb.hid (P, tabObj #[])) W σ s) (L : LocF c fb fb.env W ρ) (hct : fb.env.cells.lookup ("told" : Str) = some k) (hkt : fb.env.kindOf "tell" = some .local)
    {ok : Obj} {w0 : Value} {j : Nat} (hk1 : (k, ok) ∈ W.I) (hk2 : ok.data = .cell (some w0)) (hk3 : VR c.CR W (.obj j) w0)
    (hq : ∀ s' m' W' ps, RelF c ((fb.setm m').hid (P, tabObj ps)) W' σ s' → W.Le W' → LocF c (fb.setm m') fb.env W' ((cp "tell", .clo [.obj j]) :: ρ) → Qc .next s') :
    wpAny (model c.prog c.w) fb.A (exec (.FunctionDef "tell" params body [] none [] scope none "tell" pos) fb.env) Qc Ec s := by
  refine nestDef_K hp0 hp1 ha ?_
  have hcl := clos_told to.names hct
  have U : UpdF P (tabObj #[]) ((P, tabObj #[]) :: led W fb.Hid) (fun o => (P, o) :: led W fb.Hid) := .head fun q hq e => R.toLg.notIn q hq e
  have F := R.F
  have N := R.list
  rw [henv] at hcl
  have key : ∀ (Q : Value → Shared → Prop), (∀ v s', Q v s' ↔ wpAny (model c.prog c.w) fb.A (storeName fb.env "tell" v) (fun _ s'' => Qc .next s'') Ec s') → wpAny (model c.prog c.w) fb.A (makeFunction "tell" (qualnameIn fb.env "tell" "tell") params (.stmts body) scope fb.env [] [] [] pos pos.line) Q Ec s := fun Q hQ => by
    rw [henv]
    refine nest_K (h₀ := fb.h₀) (L := fb.L) (m := fb.m) (news := (P, tabObj #[]) :: led W fb.Hid) F N f.T CH rfl U trivial rfl hcl fun fa c' oc vs t ctv doc h' tk F' N' d1 d2 l1 l2 => (hQ _ _).mpr ?_
    have frP : ∀ q ∈ led W fb.Hid, q.1 ≠ P := R.toLg.notIn
    generalize #[] ++ #[rawInt pos.line, rawInt pos.col, Value.ref c'] = ps at N'
    have R1 : RelF c (fb.hid (P, tabObj ps)) W σ { s with heap := h', toks := tk } := RelF.tohid (tk := tk) (RelF.unhid R) F' (fun q hq => N' q (.tail _ (.tail _ hq))) frP
    have lt1 : ∀ q ∈ led W ((P, tabObj ps) :: fb.Hid), q.1 < c' := fun q hq => by
      rcases List.mem_cons.mp (hid_perm.mem_iff.mp hq) with rfl | hq
      · exact l1 (P, tabObj #[]) (.head _)
      · exact l1 q (.tail _ hq)
    have R2 : RelF c (fb.hid (P, tabObj ps)) { W with I := (c', oc) :: W.I } σ { s with heap := h', toks := tk } := Rel.imm (tk := tk) R1 F' (fun q hq => by
      rcases List.mem_cons.mp hq with rfl | hq
      · exact N' _ (.tail _ (.head _))
      · exact N' q (.tail _ (.tail _ (hid_perm.mem_iff.mp hq)))) fun q hq => Nat.ne_of_lt (lt1 q hq)
    have R3 := Rel.imm (D := fa) (o := fnMade "tell" (qualnameIn (envX cn cs fb.L a (.ref cc) cl) "tell" "tell") params body scope [(("told" : Str), k)] doc ((c.mg "__name__").getD .none) c' ctv) (tk := tk) R2 F' (fun q hq => by
      rcases List.mem_cons.mp hq with rfl | hq
      · exact N' _ (.head _)
      · rcases led_imm _ hq with rfl | hq
        · exact N' _ (.tail _ (.head _))
        · exact N' q (.tail _ (.tail _ (hid_perm.mem_iff.mp hq)))) fun q hq => by
      rcases led_imm _ hq with rfl | hq
      · exact Nat.ne_of_lt l2
      · exact Nat.ne_of_lt (Nat.lt_trans (lt1 q hq) l2)
    have le := (le_imm (W := W) (x := (c', oc))).trans (le_imm (W := { W with I := (c', oc) :: W.I }) (x := (fa, fnMade "tell" (qualnameIn (envX cn cs fb.L a (.ref cc) cl) "tell" "tell") params body scope [(("told" : Str), k)] doc ((c.mg "__name__").getD .none) c' ctv)))
    refine snd_store (fb := fb.hid (P, tabObj ps)) (f.hid _) R3 (LocF.le L R.cm le) hkt (.clo (ws := [w0]) ?_ (.cons (hk3.mono R.cm le) .nil)) fun s2 m2 R4 L4 => hq s2 m2 _ _ R4 le L4
    rw [hcr]
    exact .mk (.head _) (.tail _ (.head _)) d1 d2 (.tail _ (.tail _ hk1)) hk2
  exact key _ fun v s' => Iff.rfl
end
end
section
open PySem PySem.W PyProof.Rows PySem.Calls
section
variable {k : Nat} {C : Ctr} {ex : St → Prop} {R : KE} {Q : KE} {N : Loc → St → Prop} {p : Par} {t d : AV}
noncomputable def tryX : X := .call (.const (.con 1177)) [(.name l_run), (.name l_tree)]
theorem try_ev {ms : List Int} {r : Option AV} {dd : Nat} (hd : dd ≤ k + 20) (hI : IvC p t dd ms r) (hm : ms.length ≤ 1000) (h : Res r ex Q (S p ms ms [])) : evE (CC (k + 20)) ex 60 (rhoC t d) tryX (S p ms [] []) Q := by
  conv => whnf
  exact hI (k + 20) hd ms [] ex Q (by simpa using hm) (by simpa using h)
theorem isInts_intL : ∀ l : List Int, isInts (intL l) = some l
  | [] => rfl
  | a :: l => by show (isInts (intL l)).bind (fun l => some (a :: l)) = _; rw [isInts_intL l]; rfl
theorem end_ev {i : Int} {ms : List Int} (h : R (.bool true) (S p ms ms [])) : evSs C ex R 60 endB ((l_found, .int i) :: rhoC t (.int i)) (S p ms ms []) N := by
  conv => whnf
  refine sel_rt (b := decide (i = i) == (BoolOp.And == BoolOp.And)) (by simp) ?_
  conv => whnf
  have e : cmpop .Eq (.obj 7) (.obj 6) (S p ms ms []) = some true := by
    show ((isInts (intL ms)).bind fun x => (isInts (intL ms)).bind fun y => some (decide (x = y))) = some true
    rw [isInts_intL]
    simp
  rw [e]
  exact h
end
end
section
open PySem PySem.W PyProof.Rows PySem.Calls
set_option maxHeartbeats 2000000
noncomputable def lawB (i : Nat) : Stmt := hD.body.getD i (.Pass default)
noncomputable def lsc : List (Str × NameKind) := hD.scope.names
theorem law_split : hD.body = [lawB 0, lawB 1, lawB 2, lawB 3, lawB 4, lawB 5] ++ (lawB 6 :: lawB 7 :: lawB 8 :: lawB 9 :: ([lawB 10, lawB 11, lawB 12, lawB 13] ++ [lawB 14, lawB 15])) := by kernel_rfl
theorem seg1_tr : mapO (trS gl0 "RunFault" 60 lsc) [lawB 0, lawB 1, lawB 2, lawB 3, lawB 4, lawB 5] = some seg1B := by kernel_rfl
theorem seg2_tr : mapO (trS gl0 "RunFault" 60 lsc) [lawB 10, lawB 11, lawB 12, lawB 13] = some seg2B := by kernel_rfl
theorem end_tr : mapO (trS gl0 "RunFault" 60 lsc) [lawB 15] = some endB := by kernel_rfl
noncomputable def callArg : Expr → Expr
  | .Call _ as _ _ => as.headD (.Name "" default)
  | e => e
noncomputable def forIt : Stmt → Expr
  | .For _ e _ _ _ => callArg e
  | _ => .Name "" default
noncomputable def forBd : Stmt → List Stmt
  | .For _ _ b _ _ => b
  | _ => []
theorem f6 : lawB 6 = .For (.Tuple [.Name "at" ⟨923, 8, 923, 10⟩, .Name "value" ⟨923, 12, 923, 17⟩] 0 ⟨923, 8, 923, 17⟩) (.Call (.Name "enumerate" ⟨923, 21, 923, 30⟩) [forIt (lawB 6)] [] ⟨923, 21, 923, 66⟩) (forBd (lawB 6)) [] ⟨923, 4, 925, 47⟩ := by kernel_rfl
theorem t6 : trE gl0 60 lsc (forIt (lawB 6)) = some it1X := by kernel_rfl
theorem b6 : mapO (trS gl0 "RunFault" 60 lsc) (forBd (lawB 6)) = some lp1B := by kernel_rfl
theorem f7 : lawB 7 = .For (.Tuple [.Name "at" ⟨926, 8, 926, 10⟩, .Name "sign" ⟨926, 12, 926, 16⟩] 0 ⟨926, 8, 926, 16⟩) (.Call (.Name "enumerate" ⟨926, 20, 926, 29⟩) [forIt (lawB 7)] [] ⟨926, 20, 926, 52⟩) (forBd (lawB 7)) [] ⟨926, 4, 928, 46⟩ := by kernel_rfl
theorem t7 : trE gl0 60 lsc (forIt (lawB 7)) = some it2X := by kernel_rfl
theorem b7 : mapO (trS gl0 "RunFault" 60 lsc) (forBd (lawB 7)) = some lp2B := by kernel_rfl
theorem f8 : lawB 8 = .Assign [.Tuple [.Name "log" ⟨929, 4, 929, 7⟩, .Name "told" ⟨929, 9, 929, 13⟩] 0 ⟨929, 4, 929, 13⟩] (.Tuple [.List [] ⟨929, 17, 929, 19⟩, .List [] ⟨929, 21, 929, 23⟩] 0 ⟨929, 16, 929, 24⟩) ⟨929, 4, 929, 24⟩ := by kernel_rfl
noncomputable def tellP : Arguments := match lawB 9 with | .FunctionDef _ p _ _ _ _ _ _ _ _ => p | _ => default
noncomputable def tellBd : List Stmt := match lawB 9 with | .FunctionDef _ _ b _ _ _ _ _ _ _ => b | _ => []
noncomputable def tellSc : Scope := match lawB 9 with | .FunctionDef _ _ _ _ _ _ s _ _ _ => s | _ => default
noncomputable def tellPos : Pos := match lawB 9 with | .FunctionDef _ _ _ _ _ _ _ _ _ p => p | _ => default
theorem def9 : lawB 9 = .FunctionDef "tell" tellP tellBd [] none [] tellSc none "tell" tellPos := by kernel_rfl
theorem tell_to : TellOk tellP tellBd tellSc := ⟨fun _ _ _ _ _ _ _ _ _ => by kernel_rfl, by kernel_rfl, by kernel_rfl, by kernel_rfl, by kernel_rfl, by kernel_rfl⟩
noncomputable def tryE : Expr := .Call (.Name "eval_intr" ⟨939, 16, 939, 25⟩) [.Name "run" ⟨939, 26, 939, 29⟩, .Name "tree" ⟨939, 31, 939, 35⟩] [] ⟨939, 16, 939, 36⟩
theorem f14 : lawB 14 = .Try [.Assign [.Name "found" ⟨939, 8, 939, 13⟩] tryE ⟨939, 8, 939, 36⟩] [.ExceptHandler (some (.Name "RunFault" ⟨940, 11, 940, 19⟩)) none [.Return (some (.BoolOp .And [.Compare (.Name "due" ⟨941, 15, 941, 18⟩) [.Is] [.Constant .none 0 ⟨941, 22, 941, 26⟩] ⟨941, 15, 941, 26⟩, .Compare (.Name "told" ⟨941, 31, 941, 35⟩) [.Eq] [.Name "log" ⟨941, 39, 941, 42⟩] ⟨941, 31, 941, 42⟩] ⟨941, 15, 941, 42⟩)) ⟨941, 8, 941, 42⟩] ⟨940, 4, 941, 42⟩] [] [] ⟨938, 4, 941, 42⟩ := by kernel_rfl
theorem t14 : trE gl0 60 lsc tryE = some tryX := by kernel_rfl
end
section
open PySem PySem.W PyProof.Rows PySem.Calls
set_option maxHeartbeats 4000000
theorem ints_vrs {CR W} : ∀ {ws : List Value} {ns : List Int}, IntsAre ws ns → VRs CR W (intL ns) ws
  | _, _, .nil => .nil
  | _, _, .cons _ _ r => .cons .int (ints_vrs r)
noncomputable abbrev lawEv (L fa : Addr) : Env := envOfC hD.name hD.scope L fa (.ref 1278)
noncomputable abbrev lawFB (base : Heap) (L fa : Addr) (m : Str → Option Value) : FB := { A₀ := callerA, A := callerA.deeper (lawEv L fa), outer := [], env := lawEv L fa, h₀ := base, L := L, m := m, Hid := [], Cel := [] }
theorem law_kind : hD.scope.kind = .function := by kernel_rfl
theorem law_kok {L fa : Addr} : KOk (lawEv L fa) lsc := kok_env law_kind
section
variable {c : Cx} {L fa : Addr} {m : Str → Option Value}
theorem law_fb (B : Below callerA c.base [] c.base) (X : c.K.In c.base) (T : Top c.p c.loose c.mean c.mg c.mb c.base) : FB.ok (lawFB c.base L fa m) c 60 where
  B := B
  X := X
  T := T
  fr := Around.frames_deeper B.stack
  hf := rfl
  hk := law_kind
  lo := rfl
  gl := rfl
  bi := rfl
  hd := rfl
  dp := by show callerA.depth + 1 + 2 * 60 + 8 < recursionLimit; decide
  un := by show callerA.units + 3 + 8 * 60 + 128 < cLine; decide
  ce := fun p hp => absurd hp List.not_mem_nil
theorem law_ss {n : Nat} {C : Ctr} (co : CxOk c) (sn : SndC c C n) (hg : GlR c gl0) (hr : RaiseOk c n "RunFault") {l : List Stmt} {x : List XS} (h : mapO (trS gl0 "RunFault" 60 lsc) l = some x) : SS c C n (lawEv L fa) l x :=
  ss_list ((mapO_F2 h).imp fun x y hxy => ts_ok co sn hg hr 60 _ _ _ _ law_kok law_kind hxy)
end
structure Sound (c : Cx) (C : Ctr) : Prop where
  co : CxOk c
  sn : SndC c C 60
  hg : GlR c gl0
  hr : RaiseOk c 60 "RunFault"
  ro : RfOk c "RunFault"
  B : Below callerA c.base [] c.base
  X : c.K.In c.base
  T : Top c.p c.loose c.mean c.mg c.mb c.base
section
variable {c : Cx} {L fa : Addr} {m : Str → Option Value} {W : GW} {s : Shared} {ρ : Loc} {p : Par} {t : AV} {Qc : Flow → Shared → Prop} {Ec : Value → Shared → Prop}
/-- how the law must end -/
noncomputable def EndOk (c : Cx) (L : Addr) (Qc : Flow → Shared → Prop) : Prop := ∀ s' m', Fr c.base L s'.heap m' → (∃ ps, s'.heap.get? 1274 = some (tabObj ps)) → Same c s' → Qc (.ret (.bool true)) s'
theorem law_end (so : Sound c (CC 60)) (he : EndOk c L Qc) {ps : Array Value} {i : Int} {ms : List Int} (R : RelF c ((lawFB c.base L fa m).hid (1274, tabObj ps)) W (S p ms ms []) s) (Lo : LocF c (lawFB c.base L fa m) (lawEv L fa) W ((l_found, .int i) :: rhoC t (.int i))) :
    wpAny (model c.prog c.w) (callerA.deeper (lawEv L fa)) (execs [lawB 15] (lawEv L fa)) Qc Ec s := by
  have f := law_fb (L := L) (fa := fa) (m := m) so.B so.X so.T
  refine law_ss so.co so.sn so.hg so.hr end_tr ((lawFB c.base L fa m).hid (1274, tabObj ps)) 60 _ W _ s (fun _ => False) (fun v σ => v = .bool true) (fun _ _ => False) Qc Ec (f.hid _) rfl R Lo (end_ev rfl) (fun _ _ _ _ _ _ _ _ z => z.elim) (fun v av σ' s' W' m' R' le V q => ?_) (fun _ _ _ _ _ _ _ z => z.elim)
  subst q
  have := V.bool_inv
  subst this
  exact he s' m' R'.F ⟨ps, RelF.mem (fb := (lawFB c.base L fa m).setm m') R'⟩ R'.sm
theorem law_try (so : Sound c (CC 60)) (he : EndOk c L Qc) {ps : Array Value} {ms : List Int} {r : Option AV} {dd : Nat} (hd : dd ≤ 60) (hI : IvC p t dd ms r) (hm : ms.length ≤ 1000) (hr : ∀ v, r = some v → ∃ i, v = .int i)
    (R : RelF c ((lawFB c.base L fa m).hid (1274, tabObj ps)) W (S p ms [] []) s) (Lo : LocF c (lawFB c.base L fa m) (lawEv L fa) W (rhoC t (r.getD .none))) :
    wpAny (model c.prog c.w) (callerA.deeper (lawEv L fa)) (execs [lawB 14, lawB 15] (lawEv L fa)) Qc Ec s := by
  have f := law_fb (L := L) (fa := fa) (m := m) so.B so.X so.T
  rw [f14]
  have S0 := (tr_ok so.co so.sn so.hg 60 lsc (lawEv L fa) tryE tryX law_kok t14).1
  have f' := f.hid (1274, tabObj ps)
  refine wpAny_execs_cons (wpAny_Try_except (wpAny_execs_cons (wpAny_Assign_Name ?_ (swaps_no rfl 60 t14))))
  refine S0 ((lawFB c.base L fa m).hid (1274, tabObj ps)) 60 (rhoC t (r.getD .none)) W _ s (fun σ => r = none ∧ σ = S p ms ms []) (fun v σ => r = some v ∧ σ = S p ms ms []) _ _ f' f'.ev R Lo (try_ev (k := 40) hd hI hm ?_) (fun v av σ' s' W' R' le V q => ?_) (fun e' σ' s' W' Rx le q => ?_)
  · cases r with
    | none => exact ⟨rfl, rfl⟩
    | some v => exact ⟨rfl, rfl⟩
  · obtain ⟨rfl, rfl⟩ := q
    obtain ⟨i, rfl⟩ := hr _ rfl
    refine snd_store (fb := (lawFB c.base L fa m).hid (1274, tabObj ps)) f' R' (LocF.le Lo R.cm le) (by kernel_rfl) V fun s2 m2 R2 L2 => ?_
    refine wpAny_execs_nil ?_
    exact wpAny_execs_nil (law_end (m := m2) so he R2 L2)
  · obtain ⟨rfl, rfl⟩ := q
    refine catch_rf so.ro f' rfl Rx (by kernel_rfl) fun e2 h' R2 => ?_
    refine exc_ret (A := ((lawFB c.base L fa m).hid (1274, tabObj ps)).A.mark (some (.ref e2))) (ρ := rhoC t .none) f' rfl R2 (LocF.le Lo R.cm le) rfl rfl rfl rfl rfl (isInts_intL ms) fun s' R3 => he s' _ R3.F ⟨ps, RelF.mem (fb := lawFB c.base L fa m) R3⟩ R3.sm
end
end
section
open PySem PySem.W PyProof.Rows PySem.Calls
set_option maxHeartbeats 4000000
section
variable {c : Cx} {L fa : Addr} {m : Str → Option Value} {W : GW} {s : Shared} {ρ : Loc} {p : Par} {t : AV} {Qc : Flow → Shared → Prop} {Ec : Value → Shared → Prop}
theorem law_seg2 (so : Sound c (CC 60)) (he : EndOk c L Qc) (hp : Pok p) (ht : Tr 4 0 t) (hc : isCall t) {ps : Array Value} (R : RelF c ((lawFB c.base L fa m).hid (1274, tabObj ps)) W (sig p (numL p) (chrL p) ++ [.list [], .list []]) s) (Lo : LocF c (lawFB c.base L fa m) (lawEv L fa) W (rhoB t)) :
    wpAny (model c.prog c.w) (callerA.deeper (lawEv L fa)) (execs ([lawB 10, lawB 11, lawB 12, lawB 13] ++ [lawB 14, lawB 15]) (lawEv L fa)) Qc Ec s := by
  have f := law_fb (L := L) (fa := fa) (m := m) so.B so.X so.T
  obtain ⟨ms, r, hI, hL, hlen, hk⟩ := tr_call hp ht hc (by decide)
  have hm : ms.length ≤ 1000 := Nat.le_trans hlen (by decide)
  have H := seg2_tr
  revert H
  generalize [lawB 10, lawB 11, lawB 12, lawB 13] = l1
  generalize e2 : [lawB 14, lawB 15] = l2
  intro H
  refine wpAny_execs_append (law_ss so.co so.sn so.hg so.hr H ((lawFB c.base L fa m).hid (1274, tabObj ps)) 60 (rhoB t) W _ s (fun _ => False) (fun _ _ => False) (fun ρ' σ' => ρ' = rhoC t (r.getD .none) ∧ σ' = S p ms [] []) _ Ec (f.hid _) rfl R Lo
    (seg2_ev (k := 40) (dd := DD 4) (by decide) hL hm ⟨rfl, rfl⟩) (fun ρ' σ' s' W' m' R' le L' q => ?_) (fun _ _ _ _ _ _ _ _ _ z => z.elim) (fun _ _ _ _ _ _ _ z => z.elim))
  obtain ⟨rfl, rfl⟩ := q
  subst e2
  exact law_try (m := m') so he (dd := DD 4 - 1) (by decide) hI hm (fun v hv => by obtain ⟨i, e, _⟩ := (hk v hv : okI v); exact ⟨i, e⟩) R' L'
theorem look_B (hρ : LocOk t ρ) {x : List Nat} {av : AV} (h : look x (rhoB t) = some av) : look x ((l_tell, .clo [.obj 7]) :: (l_told, .obj 7) :: (l_log, .obj 6) :: ρ) = some av := by
  obtain ⟨h1, h2, h3, h4⟩ := hρ
  exact look_same h fun h => look_same h fun h => look_same h fun h => look_up h h1 fun h => look_up h h2 fun h => look_up h h3 fun h => look_up h h4 fun h => no_some h
theorem cp_told : cp "told" = l_told := by kernel_rfl
theorem cp_log : cp "log" = l_log := by kernel_rfl
theorem cp_tell : cp "tell" = l_tell := by kernel_rfl
theorem law_two (so : Sound c (CC 60)) (hcr : c.CR = CRt tellP tellBd tellSc) (CH : CodeHd c.base 1278 1274) (he : EndOk c L Qc) (hp : Pok p) (ht : Tr 4 0 t) (hc : isCall t) {oc : Obj} (hoc : oc.data = .cell none) (hρ : LocOk t ρ)
    (R : RelF c (((lawFB c.base L fa m).hid (1274, tabObj #[])).hid (L + 1, oc)) W (sig p (numL p) (chrL p)) s) (Lo : LocF c (lawFB c.base L fa m) (lawEv L fa) W ρ) :
    wpAny (model c.prog c.w) (callerA.deeper (lawEv L fa)) (execs (lawB 8 :: lawB 9 :: ([lawB 10, lawB 11, lawB 12, lawB 13] ++ [lawB 14, lawB 15])) (lawEv L fa)) Qc Ec s := by
  have f := law_fb (L := L) (fa := fa) (m := m) so.B so.X so.T
  rw [f8]
  refine wpAny_execs_cons (snd_two (fb := (lawFB c.base L fa m).hid (1274, tabObj #[])) so.co so.sn so.hg law_kok (f.hid _) R Lo hoc (by kernel_rfl) (by kernel_rfl) (by kernel_rfl) fun s1 m1 W1 o1 w1 R1 le1 L1 g1 g2 g3 => ?_)
  rw [def9]
  refine wpAny_execs_cons (snd_def (fb := lawFB c.base L fa m1) (k := L + 1) (a := fa) (cc := 1278) (P := 1274) (cn := hD.name) (cs := hD.scope) (cl := cellsFrom (L + 1) hD.scope.names []) tell_to hcr (by kernel_rfl) (by kernel_rfl) rfl (by kernel_rfl) CH (law_fb so.B so.X so.T) R1 L1 (by kernel_rfl) (by kernel_rfl) g1 g2 g3 fun s2 m2 W2 ps R2 le2 L2 => ?_)
  have h4 := L2
  rw [cp_told, cp_log, cp_tell] at h4
  have h1 : LocF c (lawFB c.base L fa m2) (lawEv L fa) W2 (rhoB t) := fun x av hx => h4 x av (look_B hρ hx)
  exact @law_seg2 c L fa m2 W2 s2 p t Qc Ec so he hp ht hc ps R2 h1
theorem law_for (so : Sound c (CC 60)) (h2 : ∀ m' W' s' ρ', RelF c (((lawFB c.base L fa m').hid (1274, tabObj #[])).hid (L + 1, oc)) W' (sig p (numL p) (chrL p)) s' → LocF c (lawFB c.base L fa m') (lawEv L fa) W' ρ' → LocOk t ρ' → wpAny (model c.prog c.w) (callerA.deeper (lawEv L fa)) (execs rest (lawEv L fa)) Qc Ec s')
    (hne : nsIn c.K mainGlobals ("enumerate" : Str) = some none) (hρ : LocOk t ρ) (R : RelF c (((lawFB c.base L fa m).hid (1274, tabObj #[])).hid (L + 1, oc)) W (sig p no5 no7) s) (Lo : LocF c (lawFB c.base L fa m) (lawEv L fa) W ρ) :
    wpAny (model c.prog c.w) (callerA.deeper (lawEv L fa)) (execs (lawB 6 :: lawB 7 :: rest) (lawEv L fa)) Qc Ec s := by
  have f := law_fb (L := L) (fa := fa) (m := m) so.B so.X so.T
  rw [f6, f7]
  refine wpAny_execs_cons (snd_forE (li := l_at) (lv := l_value) (k := 60) (fb := ((lawFB c.base L fa m).hid (1274, tabObj #[])).hid (L + 1, oc)) (tr_ok so.co so.sn so.hg 60 lsc _ _ _ law_kok t6).1 (tr_star t6) (law_ss so.co so.sn so.hg so.hr b6) (by kernel_rfl) (by kernel_rfl) (by kernel_rfl) hne ((f.hid _).hid _) R Lo (ex := fun _ => False) (R := fun _ _ => False) (N := fun ρ' σ' => LocOk t ρ' ∧ σ' = sig p (numL p) no7)
    (by kernel_rfl) (by kernel_rfl) (it1_ev (k := 40) hρ (loop1_ev (k := 40) hρ fun ρ' h => ⟨h, rfl⟩)) (fun ρ' σ' s' W' m' R' le L' q => ?_) (fun _ _ _ _ _ _ _ _ _ z => z.elim) (fun _ _ _ _ _ _ _ z => z.elim))
  obtain ⟨hρ', rfl⟩ := q
  refine wpAny_execs_cons (snd_forE (li := l_at) (lv := l_sign) (k := 60) (fb := ((lawFB c.base L fa m').hid (1274, tabObj #[])).hid (L + 1, oc)) (tr_ok so.co so.sn so.hg 60 lsc _ _ _ law_kok t7).1 (tr_star t7) (law_ss so.co so.sn so.hg so.hr b7) (by kernel_rfl) (by kernel_rfl) (by kernel_rfl) hne (((law_fb so.B so.X so.T).hid _).hid _) R' L' (ex := fun _ => False) (R := fun _ _ => False) (N := fun ρ' σ' => LocOk t ρ' ∧ σ' = sig p (numL p) (chrL p))
    (by kernel_rfl) (by kernel_rfl) (it2_ev (k := 40) hρ' (loop2_ev (k := 40) hρ' fun ρ' h => ⟨h, rfl⟩)) (fun ρ'' σ'' s'' W'' m'' R'' le' L'' q => ?_) (fun _ _ _ _ _ _ _ _ _ z => z.elim) (fun _ _ _ _ _ _ _ z => z.elim))
  obtain ⟨hρ'', rfl⟩ := q
  exact h2 m'' W'' s'' ρ'' R'' L'' hρ''
end
end
section
open PySem PySem.W PyProof.Rows PySem.Calls
set_option maxHeartbeats 4000000
theorem enum_b (w : World) : nsIn (KK w) mainGlobals ("enumerate" : Str) = some none := by kernel_rfl
theorem law_walk {w : World} {prog : Program} {base : Heap} {p : Program} {loose : List Str} {mean : ExcName → Option Value} {mg mb : Str → Option Value} {L fa a : Addr} {m : Str → Option Value} {ws : List Value} {ns : List Int} {oc : Obj} {s : Shared} {Qc : Flow → Shared → Prop} {Ec : Value → Shared → Prop}
    (X : (KK w).In base) (T : Top p loose mean mg mb base) (B : Below callerA base [] base) (CH : CodeHd base 1278 1274) (F : Fr base L s.heap m) (N : News base L s.heap [(L + 1, oc), (1274, tabObj #[])]) (hoc : oc.data = .cell none)
    (hm : m "script" = some (.ref a)) (hl : base.IsList a ws.toArray) (hi : IntsAre ws ns) (hn : ns.length ≤ 63)
    (hq : ∀ s' m', Fr base L s'.heap m' → (∃ ps, s'.heap.get? 1274 = some (tabObj ps)) → s'.gens = s.gens → s'.drawn = s.drawn → s'.os = s.os → Qc (.ret (.bool true)) s') :
    wpAny (model prog w) (callerA.deeper (envOfC hD.name hD.scope L fa (.ref 1278))) (execs hD.body (envOfC hD.name hD.scope L fa (.ref 1278))) Qc Ec s := by
  let c : Cx := { prog := prog, w := w, K := KK w, p := p, loose := loose, mean := mean, mg := mg, mb := mb, base := base, CR := CRt tellP tellBd tellSc, RF := 51, gens := s.gens, drawn := s.drawn, os := s.os }
  have co : CxOk c := cx_ok (w := w) rfl crt_fd
  have hg : GlR c gl0 := gl_ok (w := w) rfl X
  have ro : RfOk c "RunFault" := rf_ok (w := w) rfl rfl
  have hr : ∀ n, RaiseOk c n "RunFault" := raise_ok ro
  have sn : SndC c (CC 60) 60 := cn_ok co hg hr (tab_ok1 (w := w) rfl) (sp_ok (w := w) rfl tell_to rfl co hg hr) 60
  have so : Sound c (CC 60) := ⟨co, sn, hg, hr 60, ro, B, X, T⟩
  have he : EndOk c L Qc := fun s' m' F' h1 h2 => hq s' m' F' h1 h2.gens h2.drawn h2.os
  have f : FB.ok (lawFB base L fa m) c 60 := law_fb (c := c) B X T
  have big : 1278 < L := by
    obtain ⟨o, vs, file, tf, flags, tg, inF, text, tt, e, _⟩ := CH
    exact Nat.lt_of_lt_of_le (Heap.lt_size e) F.above
  have R : RelF c (((lawFB base L fa m).hid (1274, tabObj #[])).hid (L + 1, oc)) { G := base, Mu := [], I := [] } [] s := {
    nd := by
      show ([L + 1, 1274] : List Nat).Nodup
      have : L + 1 ≠ 1274 := Nat.ne_of_gt (Nat.lt_trans (by decide : 1274 < 1278) (Nat.lt_succ_of_lt big))
      simp [this]
    hr := .nil
    g := rfl
    cm := crt_mono
    ns := fun p hp => absurd hp List.not_mem_nil
    F := F
    N := N
    sm := ⟨rfl, rfl, rfl⟩ }
  have Lo : LocF c (lawFB base L fa m) (lawEv L fa) { G := base, Mu := [], I := [] } [(l_script, .lst (intL ns))] := fun x av hx => by
    rw [look_cons] at hx
    by_cases e : x = l_script
    · rw [if_pos e] at hx
      subst e
      cases hx
      obtain ⟨o, e1, e2, n, e3⟩ := hl
      exact ⟨.ref a, .lst ⟨o, n, .inr e1, e2, e3⟩ (ints_vrs hi), .loc (by kernel_rfl) rfl hm⟩
    · rw [if_neg e] at hx; exact no_some hx
  rw [law_split]
  have H := @law_ss c L fa 60 (CC 60) co sn hg (hr 60) _ _ seg1_tr
  refine wpAny_execs_append (@H (((lawFB base L fa m).hid (1274, tabObj #[])).hid (L + 1, oc)) 60 [(l_script, .lst (intL ns))] _ [] s (fun _ => False) (fun _ _ => False) (fun ρ' σ' => ∃ p t, Pok p ∧ Tr 4 0 t ∧ isCall t ∧ ρ' = rhoA t ns ∧ σ' = sig p no5 no7) _ Ec ((f.hid _).hid _) rfl R Lo
    (seg1_ev (k := 40) hn fun p t h1 h2 h3 h4 => ⟨p, t, h2, h3, h4, rfl, rfl⟩) (fun ρ' σ' s' W' m' R' le L' q => ?_) (fun _ _ _ _ _ _ _ _ _ z => z.elim) (fun _ _ _ _ _ _ _ z => z.elim))
  obtain ⟨p, t, hp, ht, hc, rfl, rfl⟩ := q
  exact law_for (c := c) (m := m') so (fun m1 W1 s1 ρ1 R1 L1 h1 => law_two (c := c) (m := m1) so rfl CH he hp ht hc hoc h1 R1 L1) (enum_b w) ⟨rfl, rfl, rfl, rfl⟩ R' L'
end
section
open PySem PySem.W PyProof.Rows PySem.Calls
set_option maxHeartbeats 8000000
theorem holds0 : PySem.Challenge.rw_pf0141_01.Holds := Mine.hd (by
  intro w s₀ s₁ mg mb G Y fa o pm cd doc dV kV ho hd hcd hD hmg hg args vals as hpre hlay hrd hwl hlo
  have KX : (hK w.params).In s₁.heap := Y
  have X := (Ground.X G).1
  have V := (Ground.X G).2
  refine Ground.open G ?_
  intro T B D TE TW
  try (refine guard_noD D (by decide +kernel) ?_; clear D)
  have hT9 : TabsAt [(1278, 1274)] s₁.heap := List.forall_mem_cons.mpr ⟨tab_of (d := Mine.hD) (x := PySem.Str.ofString "law") (c := 1278) (P := 1274) T KX (by kernel_rfl) (by kernel_rfl), fun _ h => nomatch h⟩
  have hN : Mine.hD.name = PySem.Str.ofString "law" := by kernel_rfl
  have he9 : cd = Value.ref 1278 := law_code (x := PySem.Str.ofString "law") (c := 1278) (P := 1274) KX (Top.g T) (by kernel_rfl) (hN ▸ hmg) ho hd
  subst he9
  clear hmg
  wrow_args hpre hlay hrd hwl hlo
  all_goals (
    first | refine callC_kw (enter_call ?_) | refine enter_call ?_ | refine callC_kw (enter_callW ?_) | refine enter_callW ?_ | w_how
    w_top on
    refine kn_post hT9 (fun _ _ => rfl) ?_
    w_call any ho hd hcd hD T F
    clear hd)
  rename IntsAre _ _ => hI
  rename Heap.IsList _ _ _ => hL
  rename News _ _ _ _ => hNw
  rename (_ : Obj).data = _ => hoc
  rename ¬ (_ : Int) < _ => hlen
  exact law_walk (hK1_ghost w.params (c := 1278) KX) (ghost_top hT9 T) (ghost_below hT9) (ghost_code hT9).1 (ghost_fr hT9 F) (ghost_news hT9 F hNw) hoc (by kernel_rfl) (ghost_list hT9 hL) hI (by omega)
    fun s' m' F1 ⟨ps, hps⟩ g1 d1 o1 => ⟨⟨.inl ⟨.bool true, .bool true, [], rfl, fun _ => rfl, .bool true, by kernel_rfl, fun _ => ⟨.nil, fun a ha => absurd ha List.not_mem_nil⟩⟩, fun b o e => F1.keep b o e, o1, g1.trans hg⟩, ⟨ps, hps⟩, trivial⟩)
end
end Mine

theorem PySem.Challenge.cw_pf0141_01_holds : PySem.Challenge.rw_pf0141_01.Holds := by
  exact Mine.holds0
