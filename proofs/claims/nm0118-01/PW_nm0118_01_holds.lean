import PyProof.Rows.All
import Wide.All
import OpenK.AllK
import Wide.FinOn
import Lean
import PySem.Challenge.RW_nm0118_01
open PySem PySem.W PySem.Calls PyProof.Rows PySem.Spec
set_option Elab.async false
set_option maxRecDepth 100000
set_option maxHeartbeats 0

namespace Mine

/-- the values: trees that never change; a dict's keys and values in two rows -/
inductive V where
  | none
  | bool (b : Bool)
  | int (i : Int)
  | str (s : List Nat)
  | tup (l : List V)
  | lst (l : List V)
  | dI (ks : List Int) (vs : List V)
  | dS (ks : List (List Nat)) (vs : List V)

noncomputable abbrev mkS (l : List Nat) : Str := ⟨l.toArray⟩
noncomputable abbrev Ex := Addr → Prop

noncomputable def LstAt (h : Heap) (a : Addr) (xs : List Value) : Prop := ∃ nn, h.get? a = some { cls := .type "list", data := .seq (List.toArray xs) nn }
noncomputable def TupAt (h : Heap) (a : Addr) (xs : List Value) : Prop := ∃ nn, h.get? a = some { cls := .type "tuple", data := .seq (List.toArray xs) nn }
theorem LstAt.l {h : Heap} {a : Addr} {xs : List Value} (x : LstAt h a xs) : h.IsList a (List.toArray xs) := let ⟨nn, ho⟩ := x; ⟨_, ho, rfl, nn, rfl⟩
theorem TupAt.l {h : Heap} {a : Addr} {xs : List Value} (x : TupAt h a xs) : h.IsTuple a (List.toArray xs) := let ⟨nn, ho⟩ := x; ⟨_, ho, rfl, nn, rfl⟩
mutual
/-- v is read at val in the heap h, at addresses outside X alone -/
noncomputable def VR (prog : Program) (w : World) (X : Ex) (h : Heap) : V → Value → Prop
  | .none, v => v = .none
  | .bool b, v => v = .bool b
  | .int i, v => ∃ t, v = .int i t
  | .str s, v => ∃ t, v = .str (mkS s) t
  | .tup l, v => ∃ a xs, v = .ref a ∧ ¬ X a ∧ TupAt h a xs ∧ VRs prog w X h l xs
  | .lst l, v => ∃ a xs, v = .ref a ∧ ¬ X a ∧ LstAt h a xs ∧ VRs prog w X h l xs
  | .dI ks vs, v => ∃ a xs, v = .ref a ∧ ¬ X a ∧ h.DictOf (intKind prog w) a (ks.zip xs) ∧ ks.length = xs.length ∧ (a == sysModules) = false ∧ VRs prog w X h vs xs
  | .dS ks vs, v => ∃ a xs, v = .ref a ∧ ¬ X a ∧ h.DictOf (strKind prog w) a ((ks.map mkS).zip xs) ∧ ks.length = xs.length ∧ (a == sysModules) = false ∧ VRs prog w X h vs xs
noncomputable def VRs (prog : Program) (w : World) (X : Ex) (h : Heap) : List V → List Value → Prop
  | [], xs => xs = []
  | v :: l, xs => ∃ x r, xs = x :: r ∧ VR prog w X h v x ∧ VRs prog w X h l r
end

section
variable {prog : Program} {w : World}

theorem VRs.length {X : Ex} {h : Heap} : ∀ {l : List V} {xs : List Value}, VRs prog w X h l xs → xs.length = l.length
  | [], _, e => by cases e; rfl
  | v :: l, _, ⟨x, r, e, _, hr⟩ => by subst e; simp [VRs.length hr]
theorem VRs.get {X : Ex} {h : Heap} : ∀ {l : List V} {xs : List Value} {i : Nat} {v : V}, VRs prog w X h l xs → l[i]? = some v → ∃ x, xs[i]? = some x ∧ VR prog w X h v x
  | v :: l, _, 0, _, ⟨x, r, e, hv, _⟩, hi => by subst e; simp at hi; subst hi; exact ⟨x, rfl, hv⟩
  | v :: l, _, i + 1, _, ⟨x, r, e, _, hr⟩, hi => by subst e; simp at hi; simpa using VRs.get hr hi
theorem VRs.append {X : Ex} {h : Heap} : ∀ {l k : List V} {xs ys : List Value}, VRs prog w X h l xs → VRs prog w X h k ys → VRs prog w X h (l ++ k) (xs ++ ys)
  | [], _, _, _, e, hk => by cases e; exact hk
  | v :: l, _, _, _, ⟨x, r, e, hv, hr⟩, hk => by subst e; exact ⟨x, r ++ _, rfl, hv, hr.append hk⟩
theorem VRs.take {X : Ex} {h : Heap} : ∀ {l : List V} {xs : List Value} (n : Nat), VRs prog w X h l xs → VRs prog w X h (l.take n) (xs.take n)
  | [], _, n, e => by cases e; simp [VRs]
  | v :: l, _, 0, _ => by simp [VRs]
  | v :: l, _, n + 1, ⟨x, r, e, hv, hr⟩ => by subst e; exact ⟨x, r.take n, rfl, hv, hr.take n⟩
theorem VRs.drop {X : Ex} {h : Heap} : ∀ {l : List V} {xs : List Value} (n : Nat), VRs prog w X h l xs → VRs prog w X h (l.drop n) (xs.drop n)
  | [], _, n, e => by cases e; simp [VRs]
  | v :: l, _, 0, hh => hh
  | v :: l, _, n + 1, ⟨x, r, e, hv, hr⟩ => by subst e; exact hr.drop n
theorem VRs.set {X : Ex} {h : Heap} : ∀ {l : List V} {xs : List Value} (n : Nat) {v : V} {x : Value}, VRs prog w X h l xs → VR prog w X h v x → VRs prog w X h (l.set n v) (xs.set n x)
  | [], _, n, _, _, e, _ => by cases e; simp [VRs]
  | v :: l, _, 0, _, _, ⟨x, r, e, hv, hr⟩, hx => by subst e; exact ⟨_, r, rfl, hx, hr⟩
  | v :: l, _, n + 1, _, _, ⟨x, r, e, hv, hr⟩, hx => by subst e; exact ⟨x, r.set n _, rfl, hv, hr.set n hx⟩

mutual
/-- another heap where every object outside X still stands; a smaller X -/
theorem VR.mono {X Y : Ex} {h h' : Heap} (hk : ∀ a o, ¬ X a → h.get? a = some o → h'.get? a = some o) (hY : ∀ a o, h.get? a = some o → Y a → X a) : ∀ {v : V} {x : Value}, VR prog w X h v x → VR prog w Y h' v x
  | .none, _, e => e
  | .bool _, _, e => e
  | .int _, _, e => e
  | .str _, _, e => e
  | .tup l, _, ⟨a, xs, e, hx, ⟨nn, ho⟩, hl⟩ => ⟨a, xs, e, fun y => hx (hY a _ ho y), ⟨nn, hk a _ hx ho⟩, VRs.mono hk hY hl⟩
  | .lst l, _, ⟨a, xs, e, hx, ⟨nn, ho⟩, hl⟩ => ⟨a, xs, e, fun y => hx (hY a _ ho y), ⟨nn, hk a _ hx ho⟩, VRs.mono hk hY hl⟩
  | .dI ks vs, _, ⟨a, xs, e, hx, hd, hn, hs, hl⟩ => by
    obtain ⟨o, ho, r⟩ := Heap.dictOf_iff.mp hd
    exact ⟨a, xs, e, fun y => hx (hY a o ho y), Heap.dictOf_iff.mpr ⟨o, hk a o hx ho, r⟩, hn, hs, VRs.mono hk hY hl⟩
  | .dS ks vs, _, ⟨a, xs, e, hx, hd, hn, hs, hl⟩ => by
    obtain ⟨o, ho, r⟩ := Heap.dictOf_iff.mp hd
    exact ⟨a, xs, e, fun y => hx (hY a o ho y), Heap.dictOf_iff.mpr ⟨o, hk a o hx ho, r⟩, hn, hs, VRs.mono hk hY hl⟩
theorem VRs.mono {X Y : Ex} {h h' : Heap} (hk : ∀ a o, ¬ X a → h.get? a = some o → h'.get? a = some o) (hY : ∀ a o, h.get? a = some o → Y a → X a) : ∀ {l : List V} {xs : List Value}, VRs prog w X h l xs → VRs prog w Y h' l xs
  | [], _, e => e
  | v :: l, _, ⟨x, r, e, hv, hr⟩ => ⟨x, r, e, VR.mono hk hY hv, VRs.mono hk hY hr⟩
end
noncomputable abbrev Sub (h h' : Heap) : Prop := ∀ b o, h.get? b = some o → h'.get? b = some o
theorem VR.keeps {X : Ex} {h h' : Heap} (hk : Sub h h') {v : V} {x : Value} (hv : VR prog w X h v x) : VR prog w X h' v x := hv.mono (fun a o _ => hk a o) (fun _ _ _ y => y)
theorem VRs.keeps {X : Ex} {h h' : Heap} (hk : Sub h h') {v : List V} {x : List Value} (hv : VRs prog w X h v x) : VRs prog w X h' v x := hv.mono (fun a o _ => hk a o) (fun _ _ _ y => y)
end
end Mine

namespace Mine
noncomputable abbrev PE := PySem.Expr
noncomputable abbrev PS := PySem.Stmt

mutual
inductive E where
  | none (k : Nat) (p : Pos)
  | bool (b : Bool) (k : Nat) (p : Pos)
  | int (i : Int) (k : Nat) (p : Pos)
  | str (s : List Nat) (k : Nat) (p : Pos)
  | neg (i : Int) (k : Nat) (p1 p : Pos)
  | loc (n : Nat) (p : Pos)
  | cel (n : Nat) (p : Pos)
  | glo (g : Nat) (p : Pos)
  | bin (a : E) (op : Operator) (b : E) (p : Pos)
  | cmp (a : E) (op : CmpOp) (b : E) (p : Pos)
  | chn (a : E) (o1 : CmpOp) (b : E) (o2 : CmpOp) (c : E) (p : Pos)
  | bop (o : BoolOp) (a b : E) (p : Pos)
  | bop3 (o : BoolOp) (a b c : E) (p : Pos)
  | not (a : E) (p : Pos)
  | ite (c a b : E) (p : Pos)
  | tup (l : Es) (k : Nat) (p : Pos)
  | lst (l : Es) (p : Pos)
  | dctI (ks vs : List (Int × Nat × Pos)) (p : Pos)
  | dctS (ks vs : List (List Nat × Nat × Pos)) (p : Pos)
  | sub (a i : E) (p : Pos)
  | slTo (a i : E) (p1 p : Pos)
  | slFr (a i : E) (p1 p : Pos)
  | call (f : Nat) (l : Es) (pf p : Pos)
  | len (a : E) (pf p : Pos)
  | list (a : E) (pf p : Pos)
  | meth (a : E) (name : Nat) (e : E) (pa p : Pos)
  | repl (a : E) (y z : List Nat) (k1 k2 : Nat) (p1 p2 pa p : Pos)
inductive Es where
  | nil
  | cons (e : E) (l : Es)
end

/-- the names of the locals, of the globals, of the defs -/
structure Nm where
  l : Nat → Str
  g : Nat → Str
  f : Nat → Str
/-- methods by number -/
noncomputable def methN : Nat → Str
  | 0 => Str.ofString "get"
  | 1 => Str.ofString "split"
  | _ => Str.ofString "index"

mutual
noncomputable def E.py (N : Nm) : E → PE
  | .none k p => .Constant .none k p
  | .bool b k p => .Constant (.bool b) k p
  | .int i k p => .Constant (.int i) k p
  | .str s k p => .Constant (.str (mkS s)) k p
  | .neg i k p1 p => .UnaryOp .USub (.Constant (.int i) k p1) p
  | .loc n p => .Name (N.l n) p
  | .cel n p => .Name (N.l n) p
  | .glo g p => .Name (N.g g) p
  | .bin a op b p => .BinOp (a.py N) op (b.py N) p
  | .cmp a op b p => .Compare (a.py N) [op] [b.py N] p
  | .chn a o1 b o2 c p => .Compare (a.py N) [o1, o2] [b.py N, c.py N] p
  | .bop o a b p => .BoolOp o [a.py N, b.py N] p
  | .bop3 o a b c p => .BoolOp o [a.py N, b.py N, c.py N] p
  | .not a p => .UnaryOp .Not (a.py N) p
  | .ite c a b p => .IfExp (c.py N) (a.py N) (b.py N) p
  | .tup l k p => .Tuple (l.py N) k p
  | .lst l p => .List (l.py N) p
  | .dctI ks vs p => .Dict (ks.map fun k => some (.Constant (.int k.1) k.2.1 k.2.2)) (vs.map fun k => .Constant (.int k.1) k.2.1 k.2.2) p
  | .dctS ks vs p => .Dict (ks.map fun k => some (.Constant (.str (mkS k.1)) k.2.1 k.2.2)) (vs.map fun k => .Constant (.str (mkS k.1)) k.2.1 k.2.2) p
  | .sub a i p => .Subscript (a.py N) (i.py N) p
  | .slTo a i p1 p => .Subscript (a.py N) (.Slice none (some (i.py N)) none p1) p
  | .slFr a i p1 p => .Subscript (a.py N) (.Slice (some (i.py N)) none none p1) p
  | .call f l pf p => .Call (.Name (N.f f) pf) (l.py N) [] p
  | .len a pf p => .Call (.Name (Str.ofString "len") pf) [a.py N] [] p
  | .list a pf p => .Call (.Name (Str.ofString "list") pf) [a.py N] [] p
  | .meth a name e pa p => .Call (.Attribute (a.py N) (methN name) pa) [e.py N] [] p
  | .repl a y z k1 k2 p1 p2 pa p => .Call (.Attribute (a.py N) (Str.ofString "replace") pa) [.Constant (.str (mkS y)) k1 p1, .Constant (.str (mkS z)) k2 p2] [] p
noncomputable def Es.py (N : Nm) : Es → List PE
  | .nil => []
  | .cons e l => e.py N :: l.py N
end

/-- what a value is compared with another -/
noncomputable def isSub (x y : List Nat) : Bool := !(Builtin.Str.occurrences (mkS y) (mkS x) 0 (mkS y).length 1).isEmpty
noncomputable def lookI : List Int → List V → Int → Option V
  | k :: ks, v :: vs, i => if k = i then some v else lookI ks vs i
  | _, _, _ => none
noncomputable def lookS : List (List Nat) → List V → List Nat → Option V
  | k :: ks, v :: vs, i => if k = i then some v else lookS ks vs i
  | _, _, _ => none
noncomputable def isNone : V → Bool
  | .none => true
  | _ => false
noncomputable def big : Nat := 1000000
mutual
/-- as the library's data -/
noncomputable def toP : V → PyData
  | .none => .none
  | .bool b => .bool b
  | .int i => .int i
  | .str s => .str (mkS s)
  | .tup l => .tuple (toPs l)
  | .lst l => .list (toPs l)
  | _ => .none
noncomputable def toPs : List V → List PyData
  | [] => []
  | v :: l => toP v :: toPs l
end
mutual
/-- no dict in it; d deep -/
noncomputable def okV : V → Nat → Bool
  | .tup l, d + 1 => okVs l d
  | .lst l, d + 1 => okVs l d
  | .none, _ => true
  | .bool _, _ => true
  | .int _, _ => true
  | .str s, _ => s.all fun c => decide (c < 0x110000)
  | _, _ => false
noncomputable def okVs : List V → Nat → Bool
  | [], _ => true
  | v :: l, d => okV v d && okVs l d
end
noncomputable def flat : V → Bool
  | .none => true
  | .bool _ => true
  | .int _ => true
  | .str _ => true
  | _ => false
noncomputable def eqV (a b : V) : Option Bool := if flat a && flat b then some (PyData.eqv (toP a) (toP b)) else if okV a 8 && okV b 8 then some (PyData.eqv (toP a) (toP b)) else none
noncomputable def intsV : List V → Option (List Int)
  | [] => some []
  | .int i :: l => (intsV l).map (i :: ·)
  | _ => none
/-- two dicts of intsV -/
noncomputable def dEq (ks : List Int) (vs : List V) (js : List Int) (us : List V) : Option Bool := match intsV vs, intsV us with
  | some a, some b => some (ks.length == js.length && (ks.zip a).all fun p => match lookI js us p.1 with
      | some (.int i) => decide (p.2 = i)
      | _ => false)
  | _, _ => none
noncomputable def allFlat : List V → Bool
  | [] => true
  | v :: l => flat v && allFlat l
noncomputable def anyEq (x : V) : List V → Bool
  | [] => false
  | y :: l => PyData.eqv (toP y) (toP x) || anyEq x l
noncomputable def inV (x c : V) : Option Bool := match c with
  | .dI ks vs => match x with
    | .int i => some (lookI ks vs i).isSome
    | _ => none
  | .dS ks vs => match x with
    | .str s => some (lookS ks vs s).isSome
    | _ => none
  | .str y => match x with
    | .str s => some (isSub s y)
    | _ => none
  | .tup l => if flat x && allFlat l then some (anyEq x l) else none
  | .lst l => if flat x && allFlat l then some (anyEq x l) else none
  | _ => none
noncomputable def notInV (x c : V) : Option Bool := match c with
  | .dI ks vs => match x with
    | .int i => some (!(lookI ks vs i).isSome)
    | _ => none
  | .dS ks vs => match x with
    | .str s => some (!(lookS ks vs s).isSome)
    | _ => none
  | .lst l => if flat x && allFlat l then some (!anyEq x l) else none
  | _ => none
noncomputable def cmpB (op : CmpOp) (a b : V) : Option Bool := match op with
  | .Lt => match a, b with
    | .int a, .int b => some (decide (a < b))
    | _, _ => none
  | .LtE => match a, b with
    | .int a, .int b => some (decide (a ≤ b))
    | _, _ => none
  | .Gt => match a, b with
    | .int a, .int b => some (decide (a > b))
    | _, _ => none
  | .GtE => match a, b with
    | .int a, .int b => some (decide (a ≥ b))
    | _, _ => none
  | .Eq => eqV a b
  | .NotEq => match a, b with
    | .tup [.dI k1 v1, .dI k2 v2], .tup [.dI k3 v3, .dI k4 v4] => match dEq k1 v1 k3 v3, dEq k2 v2 k4 v4 with
      | some a, some b => some (!(a && b))
      | _, _ => none
    | a, b => (eqV a b).map (!·)
  | .In => inV a b
  | .NotIn => notInV a b
  | .Is => match b with
    | .none => some (isNone a)
    | _ => none
  | .IsNot => match b with
    | .none => some (!isNone a)
    | _ => none
noncomputable def binV (op : Operator) (a b : V) : Option V := match op with
  | .Add => match a, b with
    | .int a, .int b => some (.int (a + b))
    | .str a, .str b => if a.length + b.length ≤ big then some (.str (a ++ b)) else none
    | .lst a, .lst b => if a.length + b.length ≤ big then some (.lst (a ++ b)) else none
    | _, _ => none
  | .Sub => match a, b with
    | .int a, .int b => some (.int (a - b))
    | _, _ => none
  | .Mod => match a, b with
    | .int a, .int b => if 0 < b ∧ b < 1000000 then some (.int (a % b)) else none
    | _, _ => none
  | .FloorDiv => match a, b with
    | .int a, .int b => if 0 < b ∧ b < 1000000 then some (.int (a / b)) else none
    | _, _ => none
  | .Pow => match a, b with
    | .int a, .int b => if a = 2 ∧ 0 ≤ b ∧ b ≤ 64 then some (.int (2 ^ b.toNat)) else none
    | _, _ => none
  | .Mult => match a, b with
    | .lst [x], .int n => if 0 ≤ n ∧ n ≤ 256 then some (.lst (List.replicate n.toNat x)) else none
    | _, _ => none
  | _ => none
noncomputable def subV (a i : V) : Option V := match a, i with
  | .tup l, .int i => if 0 ≤ i ∧ i < 1000000 then l[i.toNat]? else none
  | .lst l, .int i => if 0 ≤ i ∧ i < 1000000 then l[i.toNat]? else if i = -1 ∧ l.length ≤ big then l[l.length - 1]? else none
  | .dI ks vs, .int i => lookI ks vs i
  | .dS ks vs, .str s => lookS ks vs s
  | _, _ => none
/-- a[:i] -/
noncomputable def toV (a i : V) : Option V := match a, i with
  | .lst l, .int i => if 0 ≤ i ∧ i ≤ 1000 ∧ l.length ≤ big then some (.lst (l.take i.toNat)) else none
  | .str s, .int i => if 0 ≤ i ∧ i ≤ 1000 ∧ s.length ≤ big then some (.str (s.take i.toNat)) else none
  | _, _ => none
/-- a[i:] -/
noncomputable def frV (a i : V) : Option V := match a, i with
  | .str s, .int i => if s.length ≤ big then
      if 0 ≤ i ∧ i ≤ 1000 then some (.str (s.drop i.toNat)) else if i = -2 then some (.str (s.drop (s.length - 2))) else none
    else none
  | _, _ => none
noncomputable def lenV (a : V) : Option V := match a with
  | .lst l => if l.length ≤ big then some (.int l.length) else none
  | .tup l => if l.length ≤ big then some (.int l.length) else none
  | _ => none
noncomputable def listV (a : V) : Option V := match a with
  | .lst l => if l.length ≤ big then some (.lst l) else none
  | _ => none
noncomputable def unS (l : List Str) : List V := l.map fun s => .str s.cps.toList
noncomputable def idxV (x : V) : List V → Option Nat
  | [] => none
  | y :: l => if PyData.eqv (toP y) (toP x) then some 0 else (idxV x l).map (· + 1)
noncomputable def methV (n : Nat) (a x : V) : Option V := match n with
  | 0 => match a, x with
    | .dI ks vs, .int i => some ((lookI ks vs i).getD .none)
    | .dS ks vs, .str i => some ((lookS ks vs i).getD .none)
    | _, _ => none
  | 1 => match a, x with
    | .str x, .str y => if x.length ≤ big ∧ 1 ≤ y.length then some (.lst (unS (Txt.split (mkS x) (mkS y)))) else none
    | _, _ => none
  | _ => match a, x with
    | .tup l, .str x => if l.length ≤ 1000 ∧ allFlat l = true then (idxV (.str x) l).map (fun (n : Nat) => V.int (n : Int)) else none
    | _, _ => none
noncomputable def replV (a : V) (y z : List Nat) : Option V := match a with
  | .str x => if x.length ≤ big ∧ y ≠ z ∧ z.length ≤ 14 then some (.str (Txt.replace (mkS x) (mkS y) (mkS z)).cps.toList) else none
  | _ => none
noncomputable def asB : Option V → Option Bool
  | some (.bool b) => some b
  | _ => none
noncomputable def locV (r : List (Option V)) (n : Nat) : Option V := match r[n]? with
  | some (some v) => some v
  | _ => none

noncomputable def isS : V → Bool
  | .str _ => true
  | _ => false
noncomputable def isNm : E → Bool
  | .loc _ _ => true
  | .glo _ _ => true
  | _ => false
/-- the world an expression sees: the globals' values, what the defs give -/
structure Wd where
  g : Nat → Option V
  f : Nat → List V → Option V
  b : Nat → Bool
mutual
noncomputable def ev (W : Wd) (r : List (Option V)) : E → Option V
  | .none _ _ => some .none
  | .bool b _ _ => some (.bool b)
  | .int i _ _ => some (.int i)
  | .str s _ _ => some (.str s)
  | .neg i _ _ _ => some (.int (-i))
  | .loc n _ => locV r n
  | .cel n _ => locV r n
  | .glo g _ => W.g g
  | .bin a op b _ => match ev W r a with
    | some x => match ev W r b with
      | some y => binV op x y
      | none => none
    | none => none
  | .cmp a op b _ => match ev W r a with
    | some x => match ev W r b with
      | some y => (cmpB op x y).map V.bool
      | none => none
    | none => none
  | .chn a o1 b o2 c _ => match ev W r a with
    | some x => match ev W r b with
      | some y => match cmpB o1 x y with
        | some true => match ev W r c with
          | some z => (cmpB o2 y z).map V.bool
          | none => none
        | some false => some (.bool false)
        | none => none
      | none => none
    | none => none
  | .bop o a b _ => match asB (ev W r a) with
    | some c => match o with
      | .And => if c then (asB (ev W r b)).map V.bool else some (.bool false)
      | .Or => if c then some (.bool true) else (asB (ev W r b)).map V.bool
    | none => none
  | .bop3 _ _ _ _ _ => none
  | .not _ _ => none
  | .ite c a b _ => match tv W r c with
    | some true => ev W r a
    | some false => ev W r b
    | none => none
  | .tup l _ _ => match evs W r l with
    | some xs => if xs.length ≤ big then some (.tup xs) else none
    | none => none
  | .lst l _ => match evs W r l with
    | some xs => if xs.length ≤ big then some (.lst xs) else none
    | none => none
  | .dctI ks vs _ => if ks.length = vs.length ∧ ks ≠ [] ∧ ks.length ≤ 15 ∧ (ks.map (·.1)).Nodup then some (.dI (ks.map (·.1)) (vs.map fun v => .int v.1)) else none
  | .dctS ks vs _ => if ks.length = vs.length ∧ ks ≠ [] ∧ ks.length ≤ 15 ∧ (ks.map (·.1)).Nodup then some (.dS (ks.map (·.1)) (vs.map fun v => .str v.1)) else none
  | .sub a i _ => match ev W r a with
    | some x => match ev W r i with
      | some y => subV x y
      | none => none
    | none => none
  | .slTo a i _ _ => match ev W r a with
    | some x => match ev W r i with
      | some y => if isNm a || isS x then toV x y else none
      | none => none
    | none => none
  | .slFr a i _ _ => match ev W r a with
    | some x => match ev W r i with
      | some y => frV x y
      | none => none
    | none => none
  | .call f l _ _ => match evs W r l with
    | some xs => W.f f xs
    | none => none
  | .len a _ _ => match ev W r a with
    | some x => if W.b 0 then lenV x else none
    | none => none
  | .list a _ _ => match ev W r a with
    | some x => if W.b 1 then listV x else none
    | none => none
  | .meth a n e pa p => if isNm a && pa.endLine == p.line then match ev W r a with
    | some x => match ev W r e with
      | some y => methV n x y
      | none => none
    | none => none
    else none
  | .repl a y z _ _ _ _ pa p => if isNm a && pa.endLine == p.line then match ev W r a with
    | some x => replV x y z
    | none => none
    else none
noncomputable def evs (W : Wd) (r : List (Option V)) : Es → Option (List V)
  | .nil => some []
  | .cons e l => match ev W r e with
    | some x => match evs W r l with
      | some xs => some (x :: xs)
      | none => none
    | none => none
/-- a test -/
noncomputable def tv (W : Wd) (r : List (Option V)) : E → Option Bool
  | .loc n _ => asB (locV r n)
  | .call f l _ _ => match evs W r l with
    | some xs => asB (W.f f xs)
    | none => none
  | .cmp a op b _ => match ev W r a with
    | some x => match ev W r b with
      | some y => cmpB op x y
      | none => none
    | none => none
  | .chn a o1 b o2 c _ => match ev W r a with
    | some x => match ev W r b with
      | some y => match cmpB o1 x y with
        | some true => match ev W r c with
          | some z => cmpB o2 y z
          | none => none
        | some false => some false
        | none => none
      | none => none
    | none => none
  | .bop o a b _ => match tv W r a with
    | some c => match o with
      | .And => if c then tv W r b else some false
      | .Or => if c then some true else tv W r b
    | none => none
  | .bop3 o a b d _ => match tv W r a with
    | some c => match o with
      | .And => if c then (match tv W r b with
          | some e => if e then tv W r d else some false
          | none => none) else some false
      | .Or => if c then some true else (match tv W r b with
          | some e => if e then some true else tv W r d
          | none => none)
    | none => none
  | .not a _ => (tv W r a).map (!·)
  | _ => none
end
end Mine

namespace Mine
/-- room for n more calls -/
structure AOK0 (n : Nat) (A : Around) : Prop where
  hd : A.handled = none
  dep : A.depth + n ≤ 330
  un : A.units + 8 * n ≤ 200
  frs : ∃ l, A.frames = some l
structure AOK (n : Nat) (A : Around) : Prop extends AOK0 n A where
  fr : ∃ env l, A.frames = some (env :: l) ∧ env.scope.isGenerator = false ∧ env.scope.isCoroutine = false ∧ env.builtins = builtinsNs ∧ env.globals = mainGlobals
theorem AOK0.deeper {n : Nat} {A : Around} {env : Env} (a : AOK0 (n + 1) A) (h1 : env.scope.isGenerator = false) (h2 : env.scope.isCoroutine = false) (h3 : env.builtins = builtinsNs) (h4 : env.globals = mainGlobals) : AOK n (A.deeper env) := by
  obtain ⟨l, hl⟩ := a.frs
  have e : (A.deeper env).frames = some (env :: l) := by show A.frames.map (env :: ·) = _; rw [hl]; rfl
  exact ⟨⟨a.hd, by have := a.dep; show A.depth + 1 + n ≤ 330; omega, by have := a.un; show A.units + 3 + 8 * n ≤ 200; omega, ⟨_, e⟩⟩, ⟨env, l, e, h1, h2, h3, h4⟩⟩
theorem AOK0.room {n : Nat} {A : Around} (a : AOK0 n A) : A.depth < recursionLimit := by have := a.dep; unfold recursionLimit; omega
theorem AOK0.c {n : Nat} {A : Around} (a : AOK0 n A) : A.units + 128 < cLine := by have := a.un; rw [cLine_is]; omega

structure HB (prog : Program) (K : Frag) (mg mb : Str → Option Value) (h : Heap) : Prop where
  k : K.In h
  g : h.Ns mainGlobals mg
  b : h.Ns builtinsNs mb
  lim : h.NoLimit
  seer : h.NoSeer
  tree : prog.given.tree = none
theorem HB.keeps {prog : Program} {K : Frag} {mg mb : Str → Option Value} {h h' : Heap} (x : HB prog K mg mb h) (k : ∀ b o, h.get? b = some o → h'.get? b = some o) : HB prog K mg mb h' := ⟨x.k.keeps k, x.g.keeps k, x.b.keeps k, x.lim.keeps k, x.seer.keeps k, x.tree⟩
theorem HB.pylong {prog : Program} {w : World} {K : Frag} {mg mb : Str → Option Value} {n : Nat} {A : Around} {s : Shared} (x : HB prog K mg mb s.heap) (a : AOK n A) : PySem.PylongRoom (model prog w) A s := by
  obtain ⟨env, l, h0, h1, h2, h3, h4⟩ := a.fr
  refine PySem.PylongRoom.of x.lim (by have := a.dep; unfold recursionLimit; show A.depth + 100 < 1000; omega) (PySem.SeerAt.of x.seer x.tree h0 h1 h2 h3 h4)

/-- all but the frame's own dict stands as it stood -/
noncomputable def GL (L : Addr) (h h' : Heap) : Prop := ∀ b o, b ≠ L → h.get? b = some o → h'.get? b = some o
theorem GL.refl {L : Addr} (h : Heap) : GL L h h := fun _ _ _ e => e
theorem GL.trans {L : Addr} {a b c : Heap} (x : GL L a b) (y : GL L b c) : GL L a c := fun d o n e => y d o n (x d o n e)
theorem GL.of_sub {L : Addr} {h h' : Heap} (x : Sub h h') : GL L h h' := fun b o _ e => x b o e
theorem GL.push {L : Addr} {h : Heap} (o : Obj) : GL L h (h.push o) := fun _ _ _ e => Heap.get?_push_of_some _ e
theorem VR.gl {prog : Program} {w : World} {X : Ex} {L : Addr} {h h' : Heap} {v : V} {x : Value} (hL : X L) (g : GL L h h') (hv : VR prog w X h v x) : VR prog w X h' v x :=
  hv.mono (fun a o hx e => g a o (fun q => hx (q ▸ hL)) e) (fun _ _ _ y => y)
theorem VRs.gl {prog : Program} {w : World} {X : Ex} {L : Addr} {h h' : Heap} {v : List V} {x : List Value} (hL : X L) (g : GL L h h') (hv : VRs prog w X h v x) : VRs prog w X h' v x :=
  hv.mono (fun a o hx e => g a o (fun q => hx (q ▸ hL)) e) (fun _ _ _ y => y)

noncomputable def XD (X : Ex) (h : Heap) : Prop := ∀ a, X a → ∃ o, h.get? a = some o
theorem XD.new {X : Ex} {h : Heap} (x : XD X h) : ¬ X h.objs.size := fun y => by
  obtain ⟨o, ho⟩ := x _ y
  exact absurd (Heap.lt_size ho) (Nat.lt_irrefl _)
theorem Fr.at {h₀ h : Heap} {L : Addr} {m : Str → Option Value} (F : Fr h₀ L h m) : ∃ o, h.get? L = some o := by
  obtain ⟨o, _, _, ho, _⟩ := F.ns
  exact ⟨o, ho⟩
theorem XD.gl {X : Ex} {h₀ h h' : Heap} {L : Addr} {m : Str → Option Value} (x : XD X h) (F : Fr h₀ L h' m) (g : GL L h h') : XD X h' := fun a ha => by
  by_cases e : a = L
  · exact e ▸ Fr.at F
  · obtain ⟨o, ho⟩ := x a ha
    exact ⟨o, g a o e ho⟩

/-- every object of the heap but the old ones and the frame's dict -/
noncomputable def ledg (h₀ : Heap) (L : Addr) (h : Heap) : List (Addr × Obj) := (List.range h.objs.size).filterMap fun a =>
  if a = L then none else match h₀.get? a with
    | some _ => none
    | none => (h.get? a).map fun o => (a, o)
theorem ledg_news {h₀ h : Heap} {L : Addr} : News h₀ L h (ledg h₀ L h) := by
  intro p hp
  obtain ⟨a, _, e⟩ := List.mem_filterMap.mp hp
  by_cases q : a = L
  · simp [q] at e
  · simp only [q, if_false] at e
    cases h0 : h₀.get? a with
    | some o => simp [h0] at e
    | none =>
      simp only [h0, Option.map_eq_some_iff] at e
      obtain ⟨o, ho, rfl⟩ := e
      exact ⟨ho, q, h0⟩
theorem ledg_mem {h₀ h : Heap} {L b : Addr} {o : Obj} (e : h.get? b = some o) (hb : b ≠ L) (h0 : h₀.get? b = none) : (b, o) ∈ ledg h₀ L h := by
  refine List.mem_filterMap.mpr ⟨b, List.mem_range.mpr (Heap.lt_size e), ?_⟩
  simp [hb, h0, e]
theorem ledg_gl {h₀ h h' : Heap} {L : Addr} {m m' : Str → Option Value} {ex : List (Addr × Obj)} (F : Fr h₀ L h m) (F' : Fr h₀ L h' m') (N : News h₀ L h' (ex ++ ledg h₀ L h)) : GL L h h' := by
  intro b o hb e
  cases h0 : h₀.get? b with
  | some o' =>
    have := F.keep b o' h0
    rw [e] at this
    cases this
    exact F'.keep b o h0
  | none =>
    have hm : (b, o) ∈ ledg h₀ L h := by
      refine List.mem_filterMap.mpr ⟨b, List.mem_range.mpr (Heap.lt_size e), ?_⟩
      simp [hb, h0, e]
    exact (N _ (List.mem_append_right _ hm)).1
theorem ledg_gl1 {h₀ h h' : Heap} {L : Addr} {m m' : Str → Option Value} {x : Addr × Obj} (F : Fr h₀ L h m) (F' : Fr h₀ L h' m') (N : News h₀ L h' (x :: ledg h₀ L h)) : GL L h h' := ledg_gl (ex := [x]) F F' N
theorem ledg_gl0 {h₀ h h' : Heap} {L : Addr} {m m' : Str → Option Value} (F : Fr h₀ L h m) (F' : Fr h₀ L h' m') (N : News h₀ L h' (ledg h₀ L h)) : GL L h h' := ledg_gl (ex := []) F F' N

section
variable (prog : Program) (w : World)
/-- the tree ends in a value that reads as v -/
noncomputable def WP (n : Nat) (X : Ex) (h₀ : Heap) (L : Addr) (m : Str → Option Value) (s : Shared) (t : Sem Value) (v : V) : Prop :=
  ∀ {A : Around} {Q E : Value → Shared → Prop}, AOK n A → (∀ val h' tk, Fr h₀ L h' m → GL L s.heap h' → VR prog w X h' v val → Q val { s with heap := h', toks := tk }) → wpAny (model prog w) A t Q E s
end
section
/-- where an expression is reckoned -/
structure St (prog : Program) (K : Frag) (mg mb : Str → Option Value) (X : Ex) (h₀ : Heap) (L : Addr) (m : Str → Option Value) (h : Heap) : Prop where
  b : HB prog K mg mb h₀
  xl : X L
  xd : XD X h
  f : Fr h₀ L h m
  xk : ∀ a o, K.lookup a = some o → ¬ X a
end
section
variable {prog : Program} {w : World} {n : Nat} {X : Ex} {s : Shared} {h₀ h h' : Heap} {L : Addr} {K : Frag} {m mg mb : Str → Option Value}
theorem St.gl (S : St prog K mg mb X h₀ L m h) (F : Fr h₀ L h' m) (g : GL L h h') : St prog K mg mb X h₀ L m h' := ⟨S.b, S.xl, S.xd.gl F g, F, S.xk⟩
theorem St.hb (S : St prog K mg mb X h₀ L m h)   : HB prog K mg mb h := S.b.keeps S.f.keep

theorem str_le {l : List Nat} : (mkS l).length = l.length := by show l.toArray.size = _; simp
theorem mkS_append {a b : List Nat} : mkS a ++ mkS b = mkS (a ++ b) := by
  apply Str.ext'
  show (mkS a ++ mkS b).cps = _
  rw [Str.cps_append]
  simp
theorem mkS_inj {a b : List Nat} : mkS a = mkS b ↔ a = b := by
  constructor
  · intro e
    have : (mkS a).cps = (mkS b).cps := by rw [e]
    simpa using congrArg Array.toList this
  · rintro rfl; rfl
theorem mkS_cps (x : Str) : mkS x.cps.toList = x := by
  cases x; simp [mkS]

theorem VR.new_lst {l : List V} {xs : List Value} {a : Addr} {nn : Nat} (hX : ¬ X a) (ho : h.get? a = some { cls := .type "list", data := .seq (List.toArray xs) nn }) (hl : VRs prog w X h l xs) : VR prog w X h (.lst l) (.ref a) :=
  ⟨a, xs, rfl, hX, ⟨nn, ho⟩, hl⟩
theorem VR.new_tup {l : List V} {xs : List Value} {a : Addr} {nn : Nat} (hX : ¬ X a) (ho : h.get? a = some { cls := .type "tuple", data := .seq (List.toArray xs) nn }) (hl : VRs prog w X h l xs) : VR prog w X h (.tup l) (.ref a) :=
  ⟨a, xs, rfl, hX, ⟨nn, ho⟩, hl⟩
theorem VRs.rep {x : V} {y : Value} (hv : VR prog w X h x y) : ∀ k : Nat, VRs prog w X h (List.replicate k x) (List.replicate k y)
  | 0 => rfl
  | k + 1 => ⟨y, _, rfl, hv, VRs.rep hv k⟩
theorem rep_flat {y : Value} : ∀ k : Nat, (List.replicate k [y]).flatten = List.replicate k y
  | 0 => rfl
  | k + 1 => by simp [List.replicate_succ, rep_flat k]

theorem bin_ok {op : Operator} {a b r : V} {x y : Value} (S : St prog K mg mb X h₀ L m s.heap) (hx : VR prog w X s.heap a x) (hy : VR prog w X s.heap b y) (e : binV op a b = some r) : WP prog w n X h₀ L m s (binaryOp op x y) r := by
  intro A Q E ha k
  have new := S.xd.new
  cases op <;> simp only [binV] at e <;> try (cases e; done)
  · -- Add
    split at e <;> try (cases e; done)
    · cases e
      obtain ⟨t, rfl⟩ := hx
      obtain ⟨u, rfl⟩ := hy
      exact PyProof.Rows.add_int (k _ _ _ S.f (GL.refl _) ⟨_, rfl⟩)
    · split at e <;> try (cases e; done)
      rename_i h
      cases e
      obtain ⟨t, rfl⟩ := hx
      obtain ⟨u, rfl⟩ := hy
      refine PyProof.Rows.add_str (fun t' tk => ?_) (by rw [str_le, str_le, sizeLine_eq]; unfold big at h; omega)
      rw [mkS_append]
      exact k _ _ _ S.f (GL.refl _) ⟨_, rfl⟩
    · split at e <;> try (cases e; done)
      rename_i h
      cases e
      obtain ⟨l, xs, rfl, hX, hl, hr⟩ := hx
      obtain ⟨l', xs', rfl, hX', hl', hr'⟩ := hy
      refine add_lists S.f ledg_news hl.l hl'.l (fun h' F' N' => ?_) (by rw [hr.length, hr'.length, sizeLine_eq]; unfold big at h; omega)
      have g := ledg_gl1 S.f F' N'
      exact k _ _ _ F' g (VR.new_lst new (N' _ (.head _)).1 ((hr.gl S.xl g).append (hr'.gl S.xl g)))
  · -- Sub
    split at e <;> try (cases e; done)
    cases e
    obtain ⟨t, rfl⟩ := hx
    obtain ⟨u, rfl⟩ := hy
    exact PyProof.Rows.sub_int (k _ _ _ S.f (GL.refl _) ⟨_, rfl⟩)
  · -- Mult
    split at e <;> try (cases e; done)
    rename_i a b
    split at e <;> try (cases e; done)
    rename_i h
    cases e
    obtain ⟨l, xs, rfl, hX, hl, hr⟩ := hx
    obtain ⟨u, rfl⟩ := hy
    obtain ⟨y, xs', rfl, hv, e'⟩ := hr
    cases e'
    refine PySem.W.KMa.mul S.f ledg_news hl.l (by omega) (by omega) ?_ (rep_flat _) (fun D h' F' N' lt => ?_)
    · simp; omega
    have g := ledg_gl1 S.f F' N'
    have nX : ¬ X D := fun y => by
      obtain ⟨o, ho⟩ := S.xd D y
      have hm : (D, o) ∈ ledg h₀ L s.heap := ledg_mem ho (N' _ (.head _)).2.1 (N' _ (.head _)).2.2
      exact absurd (lt _ hm) (Nat.lt_irrefl _)
    exact k _ _ _ F' g (VR.new_lst nX (N' _ (.head _)).1 (VRs.rep (hv.gl S.xl g) _))
  · -- Mod
    split at e <;> try (cases e; done)
    split at e <;> try (cases e; done)
    rename_i h
    cases e
    obtain ⟨t, rfl⟩ := hx
    obtain ⟨u, rfl⟩ := hy
    refine mod_int' (by omega) ?_
    rw [Int.fmod_eq_emod_of_nonneg _ (by omega)]
    exact k _ _ _ S.f (GL.refl _) ⟨_, rfl⟩
  · -- Pow
    split at e <;> try (cases e; done)
    split at e <;> try (cases e; done)
    rename_i h
    cases e
    obtain ⟨t, rfl⟩ := hx
    obtain ⟨u, rfl⟩ := hy
    obtain ⟨rfl, h1, h2⟩ := h
    exact pow_int_small (by omega) (by omega) (by decide) (k _ _ _ S.f (GL.refl _) ⟨_, rfl⟩)
  · -- FloorDiv
    split at e <;> try (cases e; done)
    split at e <;> try (cases e; done)
    rename_i h
    cases e
    obtain ⟨t, rfl⟩ := hx
    obtain ⟨u, rfl⟩ := hy
    refine floordiv_int (by omega) ?_ (.inr (S.hb.pylong ha))
    rw [Int.fdiv_eq_ediv_of_nonneg _ (by omega)]
    exact k _ _ _ S.f (GL.refl _) ⟨_, rfl⟩
end
end Mine

namespace Mine
section
variable {prog : Program} {w : World} {n : Nat} {X : Ex} {s : Shared} {h₀ h h' : Heap} {L : Addr} {K : Frag} {m mg mb : Str → Option Value}

mutual
theorem reads_of : ∀ {v : V} {x : Value} {d : Nat}, VR prog w X h v x → okV v d = true → ∃ as, Reads h x (toP v) as
  | .none, _, _, e, _ => by cases e; exact ⟨_, .none⟩
  | .bool _, _, _, e, _ => by cases e; exact ⟨_, .bool _⟩
  | .int _, _, _, ⟨_, e⟩, _ => by cases e; exact ⟨_, .int _ _⟩
  | .str _, _, _, ⟨_, e⟩, _ => by cases e; exact ⟨_, .str _ _⟩
  | .tup l, _, d + 1, ⟨a, xs, e, _, ⟨nn, ho⟩, hr⟩, k => by
    subst e
    obtain ⟨as, ra⟩ := reads_ofs hr (by simpa [okV] using k)
    exact ⟨_, .tuple ho rfl rfl (by simpa using ra)⟩
  | .lst l, _, d + 1, ⟨a, xs, e, _, ⟨nn, ho⟩, hr⟩, k => by
    subst e
    obtain ⟨as, ra⟩ := reads_ofs hr (by simpa [okV] using k)
    exact ⟨_, .list ho rfl rfl (by simpa using ra)⟩
  | .tup l, _, 0, _, k => by simp [okV] at k
  | .lst l, _, 0, _, k => by simp [okV] at k
  | .dI _ _, _, _, _, k => by simp [okV] at k
  | .dS _ _, _, _, _, k => by simp [okV] at k
theorem reads_ofs : ∀ {l : List V} {xs : List Value} {d : Nat}, VRs prog w X h l xs → okVs l d = true → ∃ as, ReadsAll h xs (toPs l) as
  | [], _, _, e, _ => by cases e; exact ⟨_, .nil⟩
  | v :: l, _, d, ⟨x, r, e, hv, hr⟩, k => by
    subst e
    simp only [okVs, Bool.and_eq_true] at k
    obtain ⟨as, ra⟩ := reads_of hv k.1
    obtain ⟨bs, rb⟩ := reads_ofs hr k.2
    exact ⟨_, .cons ra rb⟩
end
mutual
theorem ok_lay : ∀ {v : V} {d : Nat}, okV v d = true → (toP v).canLay0 = true ∧ (toP v).depth ≤ d
  | .none, d, _ => ⟨rfl, Nat.zero_le _⟩
  | .bool _, d, _ => ⟨rfl, Nat.zero_le _⟩
  | .int _, d, _ => ⟨rfl, Nat.zero_le _⟩
  | .str s, d, k => by
    refine ⟨?_, Nat.zero_le _⟩
    show PyData.strOk (mkS s) = true
    unfold PyData.strOk
    simpa [okV] using k
  | .tup l, d + 1, k => by
    have q := ok_lays (l := l) (d := d) (by simpa [okV] using k)
    exact ⟨q.1, by show PyData.depthAll (toPs l) + 1 ≤ d + 1; omega⟩
  | .lst l, d + 1, k => by
    have q := ok_lays (l := l) (d := d) (by simpa [okV] using k)
    exact ⟨q.1, by show PyData.depthAll (toPs l) + 1 ≤ d + 1; omega⟩
  | .tup l, 0, k => by simp [okV] at k
  | .lst l, 0, k => by simp [okV] at k
  | .dI _ _, _, k => by simp [okV] at k
  | .dS _ _, _, k => by simp [okV] at k
theorem ok_lays : ∀ {l : List V} {d : Nat}, okVs l d = true → PyData.canLayAll0 (toPs l) = true ∧ PyData.depthAll (toPs l) ≤ d
  | [], d, _ => ⟨rfl, Nat.zero_le _⟩
  | v :: l, d, k => by
    simp only [okVs, Bool.and_eq_true] at k
    have a := ok_lay k.1
    have b := ok_lays k.2
    refine ⟨?_, ?_⟩
    · show ((toP v).canLay0 && PyData.canLayAll0 (toPs l)) = true
      rw [a.1, b.1]; rfl
    · show max (toP v).depth (PyData.depthAll (toPs l)) ≤ d
      omega
end
theorem ok_shaped {v : V} (k : okV v 8 = true) : SeqAt.shaped (toP v) = true := by
  have q := ok_lay k
  unfold SeqAt.shaped
  rw [q.1, Bool.true_and]
  exact decide_eq_true (by have := q.2; omega)

/-- a comparison that ends in a bool -/
noncomputable def WB (prog : Program) (w : World) (n : Nat) (h₀ : Heap) (L : Addr) (m : Str → Option Value) (s : Shared) (t : Sem Value) (b : Bool) : Prop :=
  ∀ {A : Around} {Q E : Value → Shared → Prop}, AOK n A → (∀ h' tk, Fr h₀ L h' m → GL L s.heap h' → Q (.bool b) { s with heap := h', toks := tk }) → wpAny (model prog w) A t Q E s

theorem flat_flat {v : V} {x : Value} (hv : VR prog w X h v x) (k : flat v = true) : PyProof.V.Flat x (toP v) := by
  cases v with
  | none => cases hv; exact .none
  | bool b => cases hv; exact .bool b
  | int i => obtain ⟨t, rfl⟩ := hv; exact .int i t
  | str s => obtain ⟨t, rfl⟩ := hv; exact .str _ t
  | _ => simp [flat] at k
theorem VRs.mem {l : List V} {xs : List Value} {y : Value} : ∀ (_ : VRs prog w X h l xs) (_ : y ∈ xs), ∃ v ∈ l, VR prog w X h v y := by
  induction l generalizing xs with
  | nil => intro hr hy; cases hr; cases hy
  | cons v l ih =>
    rintro ⟨x, r, e, hv, hr⟩ hy
    subst e
    rcases List.mem_cons.mp hy with rfl | hy
    · exact ⟨v, .head _, hv⟩
    · obtain ⟨u, hu, q⟩ := ih hr hy
      exact ⟨u, .tail _ hu, q⟩
/-- a flat value as data -/
noncomputable def valP : Value → PyData
  | .bool b => .bool b
  | .int i _ => .int i
  | .str s _ => .str s
  | _ => .none
theorem valP_of {v : V} {x : Value} (hv : VR prog w X h v x) (k : flat v = true) : valP x = toP v := by
  cases v <;> first
    | (simp [flat] at k; done)
    | (cases hv; rfl)
    | (obtain ⟨t, e⟩ := hv; subst e; rfl)
theorem any_valP {x : V} : ∀ {l : List V} {xs : List Value}, VRs prog w X h l xs → allFlat l = true → xs.any (fun y => PyData.eqv (valP y) (toP x)) = anyEq x l
  | [], _, e, _ => by cases e; rfl
  | v :: l, _, ⟨y, r, e, hv, hr⟩, k => by
    subst e
    simp only [allFlat, Bool.and_eq_true] at k
    simp only [List.any_cons, anyEq, valP_of hv k.1, any_valP hr k.2]
theorem allFlat_mem : ∀ {l : List V} {v : V}, allFlat l = true → v ∈ l → flat v = true
  | u :: l, v, k, hv => by
    simp only [allFlat, Bool.and_eq_true] at k
    rcases List.mem_cons.mp hv with rfl | hv
    · exact k.1
    · exact allFlat_mem k.2 hv

theorem lookI_at : ∀ {ks : List Int} {vs : List V} {xs : List Value} {i : Int}, VRs prog w X h vs xs → ks.length = xs.length →
    (∀ v, lookI ks vs i = some v → ∃ x, valueAt (ks.zip xs) i = some x ∧ VR prog w X h v x) ∧ (lookI ks vs i = none → valueAt (ks.zip xs) i = none)
  | [], _, _, i, _, _ => by simp [lookI, valueAt]
  | k :: ks, [], _, i, e, hl => by cases e; simp at hl
  | k :: ks, v :: vs, _, i, ⟨x, r, e, hv, hr⟩, hl => by
    subst e
    have ih := lookI_at (ks := ks) (i := i) hr (by simpa using hl)
    by_cases q : k = i
    · subst q; simp [lookI, valueAt, hv]
    · simp only [lookI, if_neg q]
      refine ⟨fun u hu => ?_, fun hu => ?_⟩
      · obtain ⟨y, hy, hyr⟩ := ih.1 u hu
        exact ⟨y, by simpa [valueAt, List.zip_cons_cons, List.find?_cons, q] using hy, hyr⟩
      · simpa [valueAt, List.zip_cons_cons, List.find?_cons, q] using ih.2 hu
theorem lookS_at : ∀ {ks : List (List Nat)} {vs : List V} {xs : List Value} {i : List Nat}, VRs prog w X h vs xs → ks.length = xs.length →
    (∀ v, lookS ks vs i = some v → ∃ x, valueAt ((ks.map mkS).zip xs) (mkS i) = some x ∧ VR prog w X h v x) ∧ (lookS ks vs i = none → valueAt ((ks.map mkS).zip xs) (mkS i) = none)
  | [], _, _, i, _, _ => by simp [lookS, valueAt]
  | k :: ks, [], _, i, e, hl => by cases e; simp at hl
  | k :: ks, v :: vs, _, i, ⟨x, r, e, hv, hr⟩, hl => by
    subst e
    have ih := lookS_at (ks := ks) (i := i) hr (by simpa using hl)
    by_cases q : k = i
    · subst q; simp [lookS, valueAt, hv]
    · have q' : ¬ mkS k = mkS i := fun e => q (mkS_inj.mp e)
      simp only [lookS, if_neg q]
      refine ⟨fun u hu => ?_, fun hu => ?_⟩
      · obtain ⟨y, hy, hyr⟩ := ih.1 u hu
        exact ⟨y, by simpa only [valueAt, List.map_cons, List.zip_cons_cons, List.find?_cons, decide_eq_false q', Bool.false_eq_true] using hy, hyr⟩
      · simpa only [valueAt, List.map_cons, List.zip_cons_cons, List.find?_cons, decide_eq_false q', Bool.false_eq_true] using ih.2 hu
end
end Mine

namespace Mine
section
variable {prog : Program} {w : World} {n : Nat} {X : Ex} {s : Shared} {h₀ h h' : Heap} {L : Addr} {K : Frag} {m mg mb : Str → Option Value}

theorem flat_eq {A : Around} {a b : V} {x y : Value} (hx : VR prog w X s.heap a x) (hy : VR prog w X s.heap b y) (ka : flat a = true) (kb : flat b = true) : SeqAt.EqAt A s x y (PyData.eqv (toP a) (toP b)) :=
  PySem.W.keq_flat (flat_flat hx ka) (flat_flat hy kb)

theorem rc_eq {A : Around} {a b : V} {x y : Value} (hx : VR prog w X s.heap a x) (hy : VR prog w X s.heap b y) (ka : flat a = true) (kb : flat b = true) : SeqAt.RcAt A s x y (PyData.eqv (toP a) (toP b)) := by
  cases a with
  | none =>
    cases hx
    cases b with
    | none => cases hy; exact SeqAt.RcAt.none_none
    | bool b => cases hy; exact SeqAt.RcAt.none_bool b
    | int i => obtain ⟨t, rfl⟩ := hy; exact SeqAt.RcAt.none_int i t
    | str i => obtain ⟨t, rfl⟩ := hy; exact SeqAt.RcAt.none_str _ t
    | _ => simp [flat] at kb
  | bool c =>
    cases hx
    cases b with
    | none => cases hy; exact SeqAt.RcAt.bool_none c
    | bool b => cases hy; exact SeqAt.RcAt.bool_bool c b
    | int i => obtain ⟨t, rfl⟩ := hy; exact SeqAt.RcAt.bool_int c i t
    | str i => obtain ⟨t, rfl⟩ := hy; exact SeqAt.RcAt.bool_str c _ t
    | _ => simp [flat] at kb
  | int c =>
    obtain ⟨u, rfl⟩ := hx
    cases b with
    | none => cases hy; exact SeqAt.RcAt.int_none c u
    | bool b => cases hy; exact SeqAt.RcAt.int_bool c u b
    | int i => obtain ⟨t, rfl⟩ := hy; exact SeqAt.RcAt.int_int c u i t
    | str i => obtain ⟨t, rfl⟩ := hy; exact SeqAt.RcAt.int_str c u _ t
    | _ => simp [flat] at kb
  | str c =>
    obtain ⟨u, rfl⟩ := hx
    cases b with
    | none => cases hy; exact SeqAt.RcAt.str_none _ u
    | bool b => cases hy; exact SeqAt.RcAt.str_bool _ u b
    | int i => obtain ⟨t, rfl⟩ := hy; exact SeqAt.RcAt.str_int _ u i t
    | str i => obtain ⟨t, rfl⟩ := hy; exact SeqAt.RcAt.str_str _ u _ t
    | _ => simp [flat] at kb
  | _ => simp [flat] at ka
theorem rc_ne {A : Around} {a b : V} {x y : Value} (hx : VR prog w X s.heap a x) (hy : VR prog w X s.heap b y) (ka : flat a = true) (kb : flat b = true) : SeqAt.RcNeAt A s x y (!PyData.eqv (toP a) (toP b)) := by
  cases a with
  | none =>
    cases hx
    cases b with
    | none => cases hy; exact SeqAt.RcNeAt.none_none
    | bool b => cases hy; exact SeqAt.RcNeAt.none_bool b
    | int i => obtain ⟨t, rfl⟩ := hy; exact SeqAt.RcNeAt.none_int i t
    | str i => obtain ⟨t, rfl⟩ := hy; exact SeqAt.RcNeAt.none_str _ t
    | _ => simp [flat] at kb
  | bool c =>
    cases hx
    cases b with
    | none => cases hy; exact SeqAt.RcNeAt.bool_none c
    | bool b => cases hy; exact SeqAt.RcNeAt.bool_bool c b
    | int i => obtain ⟨t, rfl⟩ := hy; exact SeqAt.RcNeAt.bool_int c i t
    | str i => obtain ⟨t, rfl⟩ := hy; exact SeqAt.RcNeAt.bool_str c _ t
    | _ => simp [flat] at kb
  | int c =>
    obtain ⟨u, rfl⟩ := hx
    cases b with
    | none => cases hy; exact SeqAt.RcNeAt.int_none c u
    | bool b => cases hy; exact SeqAt.RcNeAt.int_bool c u b
    | int i => obtain ⟨t, rfl⟩ := hy; exact SeqAt.RcNeAt.int_int c u i t
    | str i => obtain ⟨t, rfl⟩ := hy; exact SeqAt.RcNeAt.int_str c u _ t
    | _ => simp [flat] at kb
  | str c =>
    obtain ⟨u, rfl⟩ := hx
    cases b with
    | none => cases hy; exact SeqAt.RcNeAt.str_none _ u
    | bool b => cases hy; exact SeqAt.RcNeAt.str_bool _ u b
    | int i => obtain ⟨t, rfl⟩ := hy; exact SeqAt.RcNeAt.str_int _ u i t
    | str i => obtain ⟨t, rfl⟩ := hy; exact SeqAt.RcNeAt.str_str _ u _ t
    | _ => simp [flat] at kb
  | _ => simp [flat] at ka
theorem cmp_ofEq' {M : Model} {A : Around} {E : Value → Shared → Prop} {s : Shared} {a b : Value} {Q : Value → Shared → Prop} (h : wpAny M A (richCompare .Eq a b) Q E s) : wpAny M A (compareOp .Eq a b) Q E s := h

theorem eq_ok {a b : V} {x y : Value} {c : Bool} (S : St prog K mg mb X h₀ L m s.heap) (hx : VR prog w X s.heap a x) (hy : VR prog w X s.heap b y) (e : eqV a b = some c) : WB prog w n h₀ L m s (compareOp .Eq x y) c := by
  intro A Q E ha k
  unfold eqV at e
  split at e
  · rename_i hf
    cases e
    rw [Bool.and_eq_true] at hf
    exact rc_eq hx hy hf.1 hf.2 _ _ _ _ (k _ _ S.f (GL.refl _))
  · split at e <;> cases e
    rename_i hf
    rw [Bool.and_eq_true] at hf
    obtain ⟨as, ra⟩ := reads_of hx hf.1
    obtain ⟨bs, rb⟩ := reads_of hy hf.2
    exact eq_dataH ra rb (ok_shaped hf.1) (ok_shaped hf.2) (by have := ha.c; omega) (k _ _ S.f (GL.refl _))
theorem ne_ok {a b : V} {x y : Value} {c : Bool} (S : St prog K mg mb X h₀ L m s.heap) (hx : VR prog w X s.heap a x) (hy : VR prog w X s.heap b y) (e : (eqV a b).map (!·) = some c) : WB prog w n h₀ L m s (compareOp .NotEq x y) c := by
  intro A Q E ha k
  unfold eqV at e
  split at e
  · rename_i hf
    cases e
    rw [Bool.and_eq_true] at hf
    exact cmp_ofNotEq (rc_ne hx hy hf.1 hf.2 _ _ _ _ (k _ _ S.f (GL.refl _)))
  · split at e <;> cases e
    rename_i hf
    rw [Bool.and_eq_true] at hf
    obtain ⟨as, ra⟩ := reads_of hx hf.1
    obtain ⟨bs, rb⟩ := reads_of hy hf.2
    exact ne_dataH ra rb (ok_shaped hf.1) (ok_shaped hf.2) (by have := ha.c; omega) (k _ _ S.f (GL.refl _))

theorem intsV_are : ∀ {vs : List V} {xs : List Value} {is : List Int}, VRs prog w X h vs xs → intsV vs = some is → IntsAre xs is
  | [], _, is, e, q => by cases e; simp [intsV] at q; subst q; exact .nil
  | v :: vs, _, is, ⟨x, r, e, hv, hr⟩, q => by
    subst e
    cases v <;> simp only [intsV] at q <;> try (cases q; done)
    rw [Option.map_eq_some_iff] at q
    obtain ⟨js, hj, rfl⟩ := q
    obtain ⟨t, rfl⟩ := hv
    exact .cons _ t (intsV_are hr hj)

theorem IntsAre.uniq : ∀ {xs : List Value} {is js : List Int}, IntsAre xs is → IntsAre xs js → is = js
  | _, _, _, .nil, .nil => rfl
  | _, _, _, .cons n t h, .cons _ _ h' => by rw [IntsAre.uniq h h']
theorem lookI_self : ∀ {ks : List Int} {vs : List V} {xs : List Value} {is : List Int}, VRs prog w X h vs xs → ks.length = xs.length → ks.Nodup → intsV vs = some is → ∀ p ∈ ks.zip is, lookI ks vs p.1 = some (.int p.2)
  | [], _, _, _, _, _, _, _, p, hp => by simp at hp
  | k :: ks, [], _, is, e, hl, _, _, p, hp => by cases e; simp at hl
  | k :: ks, v :: vs, _, is, ⟨x, r, e, hv, hr⟩, hl, nd, q, p, hp => by
    subst e
    cases v <;> simp only [intsV] at q <;> try (cases q; done)
    rw [Option.map_eq_some_iff] at q
    obtain ⟨js, hj, rfl⟩ := q
    rw [List.nodup_cons] at nd
    rcases List.mem_cons.mp (by simpa using hp) with rfl | hp
    · simp [lookI]
    · have hne : ¬ k = p.1 := fun e => nd.1 (e ▸ (List.of_mem_zip (show (p.1, p.2) ∈ ks.zip js from hp)).1)
      simp only [lookI, if_neg hne]
      exact lookI_self hr (by simpa using hl) nd.2 hj p hp
theorem pairs_uniq {K : Type} [DecidableEq K] {knd : KeyKind prog w K} : ∀ {es : List DictEntry} {a b : List (K × Value)}, Pairs knd es a → Pairs knd es b → a = b
  | _, _, _, .nil, .nil => rfl
  | _, _, _, .cons h1 h2 h3, .cons g1 g2 g3 => by
    rename_i kv es kvs kv' kvs'
    rw [pairs_uniq h3 g3]
    exact congrArg (· :: _) (Prod.ext (knd.inj _ _ _ h1 g1) (h2.symm.trans g2))
theorem dict_uniq {K : Type} [DecidableEq K] {knd : KeyKind prog w K} {a : Addr} {k1 k2 : List (K × Value)} (x : h.DictOf knd a k1) (y : h.DictOf knd a k2) : k1 = k2 := by
  obtain ⟨o, es, ep, ho, _, hd, _, hp, _⟩ := x
  obtain ⟨o', es', ep', ho', _, hd', _, hp', _⟩ := y
  rw [ho] at ho'
  cases ho'
  rw [hd] at hd'
  cases hd'
  exact pairs_uniq hp hp'
theorem zip_inj {α β : Type} : ∀ {a c : List α} {b d : List β}, a.length = b.length → c.length = d.length → a.zip b = c.zip d → a = c ∧ b = d
  | [], [], [], [], _, _, _ => ⟨rfl, rfl⟩
  | [], c :: _, [], d :: _, _, _, e => by simp at e
  | a :: _, [], b :: _, [], _, _, e => by simp at e
  | a :: as, c :: cs, b :: bs, d :: ds, h1, h2, e => by
    simp only [List.zip_cons_cons, List.cons.injEq, Prod.mk.injEq] at e
    obtain ⟨x, y⟩ := zip_inj (by simpa using h1) (by simpa using h2) e.2
    exact ⟨by rw [e.1.1, x], by rw [e.1.2, y]⟩
theorem zip_fst {α β : Type} : ∀ {a : List α} {b : List β}, a.length = b.length → (a.zip b).map (·.1) = a
  | [], [], _ => rfl
  | a :: as, b :: bs, h => by simp [zip_fst (a := as) (b := bs) (by simpa using h)]

theorem lookI_int : ∀ {ks : List Int} {vs : List V} {is : List Int} {k : Int} {u : V}, intsV vs = some is → lookI ks vs k = some u → ∃ j, u = .int j
  | [], _, _, _, _, _, e => by simp [lookI] at e
  | _ :: _, [], _, _, _, _, e => by simp [lookI] at e
  | k :: ks, v :: vs, is, i, u, q, e => by
    cases v <;> simp only [intsV] at q <;> try (cases q; done)
    rw [Option.map_eq_some_iff] at q
    obtain ⟨js, hj, rfl⟩ := q
    simp only [lookI] at e
    split at e
    · cases e; exact ⟨_, rfl⟩
    · exact lookI_int hj e
theorem keq_hits {A : Around} {js : List Int} {us : List V} {ys : List Value} (hu : VRs prog w X s.heap us ys) (hl' : js.length = ys.length) {ju : List Int} (eu : intsV us = some ju) : ∀ {ks : List Int} {vs : List V} {xs : List Value} {is : List Int}, VRs prog w X s.heap vs xs → ks.length = xs.length → intsV vs = some is →
    KeqHits A s (js.zip ys) (ks.zip xs) ((ks.zip is).all fun p => match lookI js us p.1 with
      | some (.int i) => decide (p.2 = i)
      | _ => false)
  | [], _, _, is, _, _, _ => by simp; exact .nil
  | k :: ks, [], _, is, e, hl, _ => by cases e; simp at hl
  | k :: ks, v :: vs, _, is, ⟨x, r, e, hv, hr⟩, hl, q => by
    subst e
    cases v <;> simp only [intsV] at q <;> try (cases q; done)
    rename_i i
    rw [Option.map_eq_some_iff] at q
    obtain ⟨is', hj, rfl⟩ := q
    obtain ⟨t, rfl⟩ := hv
    have ih := keq_hits (A := A) hu hl' eu hr (ks := ks) (by simpa using hl) hj
    simp only [List.zip_cons_cons, List.all_cons]
    cases hk : lookI js us k with
    | none =>
      have := (lookI_at (i := k) hu hl').2 hk
      simpa using KeqHits.miss this
    | some u =>
      obtain ⟨y, hy, hyr⟩ := (lookI_at (i := k) hu hl').1 u hk
      have hui : ∃ j, u = .int j := lookI_int eu hk
      obtain ⟨j, rfl⟩ := hui
      obtain ⟨t', rfl⟩ := hyr
      refine KeqHits.hit hy ?_ ih
      have := SeqAt.EqAt.int_int (A := A) (s := s) i t j t'
      rwa [show (i == j) = decide (i = j) from rfl] at this

theorem pairs_move {p' : Program} {w' : World} {es : List DictEntry} {kvs : List (Int × Value)} (x : Pairs (intKind prog w) es kvs) : Pairs (intKind p' w') es kvs := by
  induction x with
  | nil => exact .nil
  | cons a b _ ih => exact .cons a b ih
theorem dict_move {p' : Program} {w' : World} {a : Addr} {kvs : List (Int × Value)} (x : h.DictOf (intKind prog w) a kvs) : h.DictOf (intKind p' w') a kvs := by
  obtain ⟨o, es, ep, ho, hx, hd, hk, hp, hn⟩ := x
  exact ⟨o, es, ep, ho, hx, hd, fun e he => let ⟨k, a, b⟩ := hk e he; ⟨k, a, b⟩, pairs_move hp, hn⟩

theorem dEq_at {A : Around} {ks js : List Int} {vs us : List V} {x y : Value} {b : Bool} (hu : A.units + 1 < cLine) (hx : VR prog w X s.heap (.dI ks vs) x) (hy : VR prog w X s.heap (.dI js us) y) (e : dEq ks vs js us = some b) : SeqAt.EqAt A s x y b := by
  obtain ⟨a, xs, rfl, _, da, hl, la, hv⟩ := hx
  obtain ⟨c, ys, rfl, _, dc, hl', lc, hu'⟩ := hy
  unfold dEq at e
  cases h1 : intsV vs with
  | none => rw [h1] at e; simp at e
  | some is =>
    cases h2 : intsV us with
    | none => rw [h1, h2] at e; simp at e
    | some ju =>
      rw [h1, h2] at e
      simp only [Option.some.injEq] at e
      have hli : ks.length = is.length := by rw [← (intsV_are hv h1).length, hl]
      by_cases q : a = c
      · subst q
        obtain ⟨rfl, rfl⟩ := zip_inj hl hl' (dict_uniq da dc)
        have nd : ks.Nodup := by
          obtain ⟨_, _, _, _, _, _, _, _, hn⟩ := da
          rwa [zip_fst hl] at hn
        have his : is = ju := IntsAre.uniq (intsV_are hv h1) (intsV_are hu' h2)
        subst his
        have : b = true := by
          rw [← e]
          simp only [beq_self_eq_true, Bool.true_and, List.all_eq_true]
          intro p hp
          rw [lookI_self hu' hl' nd h2 p hp]
          simp
        subst this
        exact SeqAt.EqAt.same _
      · refine SeqAt.EqAt.of_refs q fun p' w' E Q hq => ?_
        refine keq_eq (prog := p') (w := w') (knd := intKind p' w') la lc (dict_move da) (dict_move dc) (by omega) (fun _ => keq_hits hu' hl' h2 hv hl h1) ?_
        rw [List.length_zip, List.length_zip, ← hl, ← hl', Nat.min_self, Nat.min_self]
        rw [← e] at hq
        exact hq

theorem ne_dicts {k1 k2 k3 k4 : List Int} {v1 v2 v3 v4 : List V} {x y : Value} {a b : Bool} (S : St prog K mg mb X h₀ L m s.heap) (hx : VR prog w X s.heap (.tup [.dI k1 v1, .dI k2 v2]) x) (hy : VR prog w X s.heap (.tup [.dI k3 v3, .dI k4 v4]) y)
    (e1 : dEq k1 v1 k3 v3 = some a) (e2 : dEq k2 v2 k4 v4 = some b) : WB prog w n h₀ L m s (compareOp .NotEq x y) (!(a && b)) := by
  intro A Q E ha k
  obtain ⟨t, xs, rfl, _, ht, hr⟩ := hx
  obtain ⟨t', ys, rfl, _, ht', hr'⟩ := hy
  obtain ⟨x1, r1, rfl, hx1, x2, r2, rfl, hx2, q⟩ := hr
  cases q
  obtain ⟨y1, r1', rfl, hy1, y2, r2', rfl, hy2, q⟩ := hr'
  cases q
  have hu := ha.c
  refine cmp_ofNotEq (SeqAt.RcNeAt.tuples (e := fun j => if j = 0 then a else b) ht.l ht'.l (by omega) (fun j h1 h2 => ?_) _ _ _ _ ?_)
  · have : j = 0 ∨ j = 1 := by simp at h1; omega
    rcases this with rfl | rfl
    · exact dEq_at (by show A.units + 1 + 1 < _; omega) hx1 hy1 e1
    · exact dEq_at (by show A.units + 1 + 1 < _; omega) hx2 hy2 e2
  · have : (!((List.range (min (List.toArray [x1, x2]).size (List.toArray [y1, y2]).size)).all (fun j => if j = 0 then a else b) && (List.toArray [x1, x2]).size == (List.toArray [y1, y2]).size)) = !(a && b) := by
      simp [List.range, List.range.loop]
    rw [this]
    exact k _ _ S.f (GL.refl _)

theorem in_ok {a c : V} {x y : Value} {b : Bool} (S : St prog K mg mb X h₀ L m s.heap) (hx : VR prog w X s.heap a x) (hy : VR prog w X s.heap c y) (e : inV a c = some b) : WB prog w n h₀ L m s (compareOp .In x y) b := by
  intro A Q E ha k
  have kk := k s.heap s.toks S.f (GL.refl _)
  unfold inV at e
  split at e
  · split at e <;> cases e
    rename_i i
    obtain ⟨d, xs, rfl, _, da, hl, la, hv⟩ := hy
    obtain ⟨t, rfl⟩ := hx
    refine wpAny_in_of (knd := intKind prog w) (intKind_is _ _ _ _) la da.mapOf ?_
    have q := lookI_at (i := i) hv hl
    cases hk : lookI _ _ i with
    | none => rw [hk] at k; rw [q.2 hk]; exact k _ _ S.f (GL.refl _)
    | some u => rw [hk] at k; obtain ⟨z, hz, _⟩ := q.1 u hk; rw [hz]; exact k _ _ S.f (GL.refl _)
  · split at e <;> cases e
    rename_i i
    obtain ⟨d, xs, rfl, _, da, hl, la, hv⟩ := hy
    obtain ⟨t, rfl⟩ := hx
    refine wpAny_in_of (knd := strKind prog w) (strKind_is _ _ _ _) la da.mapOf ?_
    have q := lookS_at (i := i) hv hl
    cases hk : lookS _ _ i with
    | none => rw [hk] at k; rw [q.2 hk]; exact k _ _ S.f (GL.refl _)
    | some u => rw [hk] at k; obtain ⟨z, hz, _⟩ := q.1 u hk; rw [hz]; exact k _ _ S.f (GL.refl _)
  · split at e <;> cases e
    obtain ⟨t, rfl⟩ := hy
    obtain ⟨u, rfl⟩ := hx
    exact PyProof.Rows.in_str kk
  · split at e <;> cases e
    rename_i hf
    rw [Bool.and_eq_true] at hf
    obtain ⟨t, xs, rfl, _, ht, hr⟩ := hy
    refine SeqAt.in_tupleAt (fun y => PyData.eqv (valP y) (toP a)) ht.l (fun y hy => ?_) ?_
    · obtain ⟨v, hv, hvr⟩ := hr.mem (by simpa using hy)
      rw [valP_of hvr (allFlat_mem hf.2 hv)]
      exact flat_eq hvr hx (allFlat_mem hf.2 hv) hf.1
    · rw [show (List.toArray xs).any (fun y => PyData.eqv (valP y) (toP a)) = anyEq a _ from by simpa using any_valP hr hf.2]
      exact kk
  · split at e <;> cases e
    rename_i hf
    rw [Bool.and_eq_true] at hf
    obtain ⟨t, xs, rfl, _, ht, hr⟩ := hy
    refine SeqAt.in_listAt (fun y => PyData.eqv (valP y) (toP a)) ht.l (fun y hy => ?_) ?_
    · obtain ⟨v, hv, hvr⟩ := hr.mem (by simpa using hy)
      rw [valP_of hvr (allFlat_mem hf.2 hv)]
      exact flat_eq hvr hx (allFlat_mem hf.2 hv) hf.1
    · rw [show (List.toArray xs).any (fun y => PyData.eqv (valP y) (toP a)) = anyEq a _ from by simpa using any_valP hr hf.2]
      exact kk
  · cases e
end
end Mine

namespace Mine
section
variable {prog : Program} {w : World} {n : Nat} {X : Ex} {s : Shared} {h₀ h h' : Heap} {L : Addr} {K : Frag} {m mg mb : Str → Option Value}

theorem notin_ok {a c : V} {x y : Value} {b : Bool} (S : St prog K mg mb X h₀ L m s.heap) (hx : VR prog w X s.heap a x) (hy : VR prog w X s.heap c y) (e : notInV a c = some b) : WB prog w n h₀ L m s (compareOp .NotIn x y) b := by
  intro A Q E ha k
  unfold notInV at e
  split at e
  · split at e <;> cases e
    rename_i i
    obtain ⟨d, xs, rfl, _, da, hl, la, hv⟩ := hy
    obtain ⟨t, rfl⟩ := hx
    refine wpAny_notIn_of (knd := intKind prog w) (intKind_is _ _ _ _) la da.mapOf ?_
    have q := lookI_at (i := i) hv hl
    cases hk : lookI _ _ i with
    | none => rw [hk] at k; rw [q.2 hk]; exact k _ _ S.f (GL.refl _)
    | some u => rw [hk] at k; obtain ⟨z, hz, _⟩ := q.1 u hk; rw [hz]; exact k _ _ S.f (GL.refl _)
  · split at e <;> cases e
    rename_i i
    obtain ⟨d, xs, rfl, _, da, hl, la, hv⟩ := hy
    obtain ⟨t, rfl⟩ := hx
    refine wpAny_notIn_of (knd := strKind prog w) (strKind_is _ _ _ _) la da.mapOf ?_
    have q := lookS_at (i := i) hv hl
    cases hk : lookS _ _ i with
    | none => rw [hk] at k; rw [q.2 hk]; exact k _ _ S.f (GL.refl _)
    | some u => rw [hk] at k; obtain ⟨z, hz, _⟩ := q.1 u hk; rw [hz]; exact k _ _ S.f (GL.refl _)
  · split at e <;> cases e
    rename_i hf
    rw [Bool.and_eq_true] at hf
    obtain ⟨t, xs, rfl, _, ht, hr⟩ := hy
    refine SeqAt.notIn_listAt (fun y => PyData.eqv (valP y) (toP a)) ht.l (fun y hy => ?_) ?_
    · obtain ⟨v, hv, hvr⟩ := hr.mem (by simpa using hy)
      rw [valP_of hvr (allFlat_mem hf.2 hv)]
      exact flat_eq hvr hx (allFlat_mem hf.2 hv) hf.1
    · rw [show (List.toArray xs).any (fun y => PyData.eqv (valP y) (toP a)) = anyEq a _ from by simpa using any_valP hr hf.2]
      exact k _ _ S.f (GL.refl _)
  · cases e

theorem isNone_of {a : V} {x : Value} (hx : VR prog w X h a x) : (x == Value.none) = isNone a := by
  cases a with
  | none => cases hx; rfl
  | bool => cases hx; rfl
  | int => obtain ⟨t, rfl⟩ := hx; rfl
  | str => obtain ⟨t, rfl⟩ := hx; rfl
  | tup => obtain ⟨a, xs, rfl, _⟩ := hx; rfl
  | lst => obtain ⟨a, xs, rfl, _⟩ := hx; rfl
  | dI => obtain ⟨a, xs, rfl, _⟩ := hx; rfl
  | dS => obtain ⟨a, xs, rfl, _⟩ := hx; rfl

theorem cmp_ok {op : CmpOp} {a c : V} {x y : Value} {b : Bool} (S : St prog K mg mb X h₀ L m s.heap) (hx : VR prog w X s.heap a x) (hy : VR prog w X s.heap c y) (e : cmpB op a c = some b) : WB prog w n h₀ L m s (compareOp op x y) b := by
  intro A Q E ha k
  cases op <;> simp only [cmpB] at e
  · exact eq_ok S hx hy e ha k
  · split at e
    · split at e <;> try (cases e; done)
      cases e
      rename_i h1 h2
      exact ne_dicts S hx hy h1 h2 ha k
    · exact ne_ok S hx hy e ha k
  · split at e <;> try (cases e; done)
    cases e
    obtain ⟨t, rfl⟩ := hx
    obtain ⟨u, rfl⟩ := hy
    exact PyProof.Rows.lt_int (k _ _ S.f (GL.refl _))
  · split at e <;> try (cases e; done)
    cases e
    obtain ⟨t, rfl⟩ := hx
    obtain ⟨u, rfl⟩ := hy
    exact PyProof.Rows.le_int (k _ _ S.f (GL.refl _))
  · split at e <;> try (cases e; done)
    cases e
    obtain ⟨t, rfl⟩ := hx
    obtain ⟨u, rfl⟩ := hy
    exact PyProof.Rows.gt_int (k _ _ S.f (GL.refl _))
  · split at e <;> try (cases e; done)
    cases e
    obtain ⟨t, rfl⟩ := hx
    obtain ⟨u, rfl⟩ := hy
    exact PyProof.Rows.ge_int (k _ _ S.f (GL.refl _))
  · split at e <;> try (cases e; done)
    cases e
    cases hy
    refine is_none_gen ?_
    rw [isNone_of hx]
    exact k _ _ S.f (GL.refl _)
  · split at e <;> try (cases e; done)
    cases e
    cases hy
    refine isnot_none_gen ?_
    rw [isNone_of hx]
    exact k _ _ S.f (GL.refl _)
  · exact in_ok S hx hy e ha k
  · exact notin_ok S hx hy e ha k

theorem subT {slice : PE} (hns : ∀ a b c d, slice ≠ .Slice a b c d) (o i : Value) : subscripted slice false o i = operate [o, i] (getItem o i) := by
  unfold subscripted
  split
  · exact absurd rfl (hns _ _ _ _)
  · rename_i h; cases h
  · rfl

theorem sub_ok {a i r : V} {x y : Value} {value slice : PE} (hns : ∀ a b c d, slice ≠ .Slice a b c d) (S : St prog K mg mb X h₀ L m s.heap) (hx : VR prog w X s.heap a x) (hy : VR prog w X s.heap i y) (e : subV a i = some r) : WP prog w n X h₀ L m s (subscriptTail value slice x y) r := by
  intro A Q E ha k
  unfold subV at e
  split at e
  · split at e <;> try (cases e; done)
    rename_i l i h
    obtain ⟨t, xs, rfl, nX, ht, hr⟩ := hx
    obtain ⟨u, rfl⟩ := hy
    obtain ⟨z, hz, hzr⟩ := hr.get e
    have hlt : i.toNat < l.length := (List.getElem?_eq_some_iff.mp e).1
    have ht' : IsTup s.heap t (List.toArray xs) := ht.l
    refine tail_any ht'.typeIs slot_tuple_getitem.lookup (PyProof.Rows.getItem_tuple (j := i.toNat) ht' (by omega) (by omega) ?_ (by simpa using hz) (k _ _ _ S.f (GL.refl _) hzr)) (subT hns _ _)
    unfold seqIndex?
    rw [List.size_toArray, hr.length]
    have h0 : ¬ i < 0 := by omega
    have h1 : i < (l.length : Int) := by omega
    simp [h0, h1, h.1]
  · split at e
    · rename_i l i h
      obtain ⟨t, xs, rfl, nX, ht, hr⟩ := hx
      obtain ⟨u, rfl⟩ := hy
      obtain ⟨z, hz, hzr⟩ := hr.get e
      exact tail_any ht.l.typeIs slot_list_getitem.lookup (wpAny_getItem_list ht.l (by omega) (by omega) (by simpa using hz) (k _ _ _ S.f (GL.refl _) hzr)) (subT hns _ _)
    · split at e <;> try (cases e; done)
      rename_i l i h h'
      obtain ⟨t, xs, rfl, nX, ht, hr⟩ := hx
      obtain ⟨u, rfl⟩ := hy
      obtain ⟨z, hz, hzr⟩ := hr.get e
      obtain ⟨rfl, hb⟩ := h'
      have hlt := (List.getElem?_eq_some_iff.mp e).1
      have hs : (List.toArray xs).size = l.length := by rw [List.size_toArray, hr.length]
      refine tail_any ht.l.typeIs slot_list_getitem.lookup (wpAny_getItem_list_neg ht.l (by omega) (by rw [hs]; omega) (by omega) ?_ (k _ _ _ S.f (GL.refl _) hzr)) (subT hns _ _)
      rw [hs, show (-1 + (l.length : Int)).toNat = l.length - 1 by omega]
      simpa using hz
  · rename_i ks vs i
    obtain ⟨d, xs, rfl, _, da, hl, la, hv⟩ := hx
    obtain ⟨t, rfl⟩ := hy
    obtain ⟨z, hz, hzr⟩ := (lookI_at (i := i) hv hl).1 _ e
    exact tail_any da.typeIs slot_dict_getitem.lookup (wpAny_getItem_of (knd := intKind prog w) (intKind_is _ _ _ _) da.mapOf hz (k _ _ _ S.f (GL.refl _) hzr)) (subT hns _ _)
  · rename_i ks vs i
    obtain ⟨d, xs, rfl, _, da, hl, la, hv⟩ := hx
    obtain ⟨t, rfl⟩ := hy
    obtain ⟨z, hz, hzr⟩ := (lookS_at (i := i) hv hl).1 _ e
    exact tail_any da.typeIs slot_dict_getitem.lookup (wpAny_getItem_of (knd := strKind prog w) (strKind_is _ _ _ _) da.mapOf hz (k _ _ _ S.f (GL.refl _) hzr)) (subT hns _ _)
  · cases e
end
end Mine

namespace Mine
section
variable {prog : Program} {w : World} {n : Nat} {X : Ex} {s : Shared} {h₀ h h' : Heap} {L : Addr} {K : Frag} {m mg mb : Str → Option Value}

theorem slice_pick (s : List Nat) (l u : Option Int) : Txt.slice (mkS s) l u = mkS ((s.drop (kms_lo l s.length)).take (kms_hi u s.length - kms_lo l s.length)) := by
  have hb := kms_bounds l u s.length
  have e0 : Builtin.Str.strSliceIndices l u 1 (mkS s).length = sliceRange (kms_lo l s.length : Nat) (kms_hi u s.length : Nat) 1 := by
    rw [str_le]
    have : Builtin.Str.strSliceIndices l u 1 s.length = sliceRange (sliceBounds l u none s.length).1 (sliceBounds l u none s.length).2.1 (sliceBounds l u none s.length).2.2 := rfl
    rw [this, hb]
  have e1 : (Builtin.Str.strSliceIndices l u 1 (mkS s).length).filterMap ((mkS s).cps[·]?) = (s.drop (kms_lo l s.length)).take (kms_hi u s.length - kms_lo l s.length) := by
    rw [e0, sliceRange_one, pick_run]
  unfold Txt.slice
  split
  · rename_i hc
    rw [e0, sliceRange_one] at hc
    simp only [List.length_map, List.length_range, str_le] at hc
    have hc' : kms_hi u s.length - kms_lo l s.length = s.length := by simpa using hc
    have hh : kms_hi u s.length ≤ s.length := by
      unfold kms_hi
      cases u with
      | none => exact Nat.le_refl _
      | some y => simp only; split <;> omega
    by_cases z : s.length = 0
    · have : s = [] := List.eq_nil_of_length_eq_zero z
      subst this; simp
    · have h0 : kms_lo l s.length = 0 := by omega
      rw [h0, List.drop_zero, List.take_of_length_le (by omega)]
  · rw [e1]

theorem let_str {value : PE} {x : Str} {t : Tok} (r : Value) : letTemporaryGo value (.str x t) r = pure () := by
  unfold letTemporaryGo
  split <;> first | rfl | (rename_i h; cases h)

theorem ev_slice_to {value : PE} {hi : PE} {p1 : Pos} {a i r : V} {x y : Value} (S : St prog K mg mb X h₀ L m s.heap) (hx : VR prog w X s.heap a x) (hy : VR prog w X s.heap i y) (e : toV a i = some r) (hv : ∀ l, x = .ref l → ∃ id p, value = .Name id p) {A : Around} {Q E : Value → Shared → Prop} (ha : AOK n A)
    (k : ∀ val h' tk, Fr h₀ L h' m → GL L s.heap h' → VR prog w X h' r val → Q val { s with heap := h', toks := tk }) :
    wpAny (model prog w) A (subscriptTail value (.Slice none (some hi) none p1) x (.ref s.heap.objs.size)) Q E { s with heap := s.heap.push { cls := .type "slice", data := .fields #[.none, y, .none] } } := by
  unfold toV at e
  split at e
  · split at e <;> cases e
    rename_i l i h
    obtain ⟨t, xs, rfl, nX, ht, hr⟩ := hx
    obtain ⟨u, rfl⟩ := hy
    obtain ⟨id, p, rfl⟩ := hv _ rfl
    refine kms_slice_lit S.f ledg_news ht.l .none (.int i u) rfl (fun D h' F' N' lt => ?_) rfl (fun _ => rfl) (by rw [List.size_toArray, hr.length, sizeLine_eq]; have := h.2.2; unfold big at this; omega)
    have g := ledg_gl1 S.f F' N'
    have nX : ¬ X D := fun y => by
      obtain ⟨o, ho⟩ := S.xd D y
      exact absurd (lt _ (ledg_mem ho (N' _ (.head _)).2.1 (N' _ (.head _)).2.2)) (Nat.lt_irrefl _)
    refine k _ _ _ F' g (VR.new_lst nX (N' _ (.head _)).1 ?_)
    have : kms_pick (List.toArray xs).toList none (some i) = xs.take i.toNat := by
      have h0 : ¬ i < 0 := by omega
      unfold kms_pick kms_lo kms_hi
      simp only [if_neg h0, List.drop_zero, Nat.sub_zero]
      rw [kmk_take_min]
    rw [this]
    exact (hr.gl S.xl g).take _
  · split at e <;> cases e
    rename_i l i h
    obtain ⟨t, rfl⟩ := hx
    obtain ⟨u, rfl⟩ := hy
    refine slice_strN_ns S.f ledg_news (fun h' t' tk F' N' => ?_) rfl (fun r => let_str r) (by rw [str_le, sizeLine_eq]; have := h.2.2; unfold big at this; omega)
    rw [slice_pick]
    have : ((l.drop (kms_lo none l.length)).take (kms_hi (some i) l.length - kms_lo none l.length)) = l.take i.toNat := by
      have h0 : ¬ i < 0 := by omega
      unfold kms_lo kms_hi
      simp only [if_neg h0, List.drop_zero, Nat.sub_zero]
      rw [kmk_take_min]
    rw [this]
    exact k _ _ _ F' (ledg_gl0 S.f F' N') ⟨_, rfl⟩
  · cases e
theorem ev_slice_fr {value : PE} {lo : PE} {p1 : Pos} {a i r : V} {x y : Value} (S : St prog K mg mb X h₀ L m s.heap) (hx : VR prog w X s.heap a x) (hy : VR prog w X s.heap i y) (e : frV a i = some r) {A : Around} {Q E : Value → Shared → Prop} (ha : AOK n A)
    (k : ∀ val h' tk, Fr h₀ L h' m → GL L s.heap h' → VR prog w X h' r val → Q val { s with heap := h', toks := tk }) :
    wpAny (model prog w) A (subscriptTail value (.Slice (some lo) none none p1) x (.ref s.heap.objs.size)) Q E { s with heap := s.heap.push { cls := .type "slice", data := .fields #[y, .none, .none] } } := by
  unfold frV at e
  split at e
  · split at e <;> try (cases e; done)
    rename_i l i h
    obtain ⟨t, rfl⟩ := hx
    obtain ⟨u, rfl⟩ := hy
    refine slice_strN_sn S.f ledg_news (fun h' t' tk F' N' => ?_) rfl (fun r => let_str r) (by rw [str_le, sizeLine_eq]; unfold big at h; omega)
    rw [slice_pick]
    have g := ledg_gl0 S.f F' N'
    have e2 : r = .str ((l.drop (kms_lo (some i) l.length)).take (kms_hi none l.length - kms_lo (some i) l.length)) := by
      split at e
      · rename_i h1
        cases e
        have h0 : ¬ i < 0 := by omega
        unfold kms_lo kms_hi
        simp only [if_neg h0]
        rw [kmk_drop_min, List.take_of_length_le]
        rw [List.length_drop]; omega
      · split at e <;> cases e
        rename_i h1
        subst h1
        unfold kms_lo kms_hi
        simp only [show ((-2 : Int) < 0) from by decide, if_true]
        rw [List.take_of_length_le]
        · rfl
        · rw [List.length_drop]; show _ ≤ l.length - (l.length - (-(-2) : Int).toNat); omega
    rw [e2] at k
    exact k _ _ _ F' g ⟨_, rfl⟩
  · cases e
end
end Mine

namespace Mine
open PySem.SeqAt
theorem wpAny_forIn_rng {β : Type} {M : Model} {A : Around} {E : Value → Shared → Prop} {s : Shared} (f : Nat → β → Sem (ForInStep β)) (I : List Nat → β → Shared → Prop) (Q : β → Shared → Prop)
    (turn : ∀ x rest b s, I (x :: rest) b s → wpAny M A (f x b) (fun r s' => match r with
      | .yield b' => I rest b' s'
      | .done b' => Q b' s') E s) (fin : ∀ b s, I [] b s → Q b s) (lo hi : Nat) (b : β) (h : I (List.range' lo (hi - lo)) b s) : wpAny M A (forIn [lo:hi] b f) Q E s := by
  rw [Std.Legacy.Range.forIn_eq_forIn_range']
  refine wpAny_forIn_list f I Q turn fin _ _ ?_
  simpa [Std.Legacy.Range.size] using h
theorem tuple_indexAt (l : Addr) (items : Array Value) (n : Nat) (dd : Option Addr) (sl : Array (Option Value)) (x : Value) (e : Value → Bool) (j : Nat) (hj : j < items.size) (he1 : e items[j] = true) (he0 : ∀ m (hm : m < items.size), m < j → e items[m] = false) :
    Meets (Builtin.«tuple.index» ⟨[.ref l, x], []⟩)
      (fun A R s => s.heap.get? l = some { cls := .type "tuple", dict := dd, data := .seq items n, slots := sl } ∧ (∀ y, y ∈ items → EqAt A.in1 s y x (e y)) ∧ R (.ok (.ret (.int (j : Int) s.toks))) { s with toks := s.toks + 1 }) :=
  .of_wp fun prog w A R s h => by
    obtain ⟨hp, g, d, tk, os⟩ := s; obtain ⟨hl, he, h⟩ := h
    wp_walk using wpAny_loadPart' hl, wpAny_forIn_rng _ (fun rest b s' => b.1 = none ∧ s' = ⟨hp, g, d, tk, os⟩ ∧ ∃ i, i ≤ j ∧ rest = List.range' i (items.size - i)) _
    case turn =>
      rintro x1 rest b s' ⟨hb, rfl, i, hi, hr⟩
      have e0 : items.size - i = (items.size - (i + 1)) + 1 := by omega
      rw [e0, List.range'_succ] at hr
      obtain ⟨rfl, rfl⟩ := List.cons.inj hr
      have hlt : x1 < items.size := by omega
      rw [Array.getElem?_eq_getElem hlt]
      show wpAny _ _ (eqBool items[x1] x >>= _) _ _ _
      refine wpAny_bind (he items[x1] (Array.getElem_mem hlt) prog w _ _ ?_)
      rcases Nat.lt_or_ge x1 j with q | q
      · rw [he0 x1 hlt q]
        simp only [Bool.false_eq_true, if_false]
        exact wpAny_pure ⟨rfl, rfl, x1 + 1, by omega, rfl⟩
      · have : x1 = j := by omega
        subst this
        rw [he1]
        simp only [if_true]
        wp_walk
        exact ⟨_, rfl, h⟩
    case fin =>
      rintro b s' ⟨hb, rfl, i, hi, hr⟩
      exfalso
      have := congrArg List.length hr
      simp at this
      omega
    case h =>
      exact ⟨rfl, rfl, 0, Nat.zero_le _, by simp⟩
end Mine

namespace Mine
/-- as WP, and some token has been drawn -/
noncomputable def WPT (prog : Program) (w : World) (n : Nat) (X : Ex) (h₀ : Heap) (L : Addr) (m : Str → Option Value) (s : Shared) (t : Sem Value) (v : V) : Prop :=
  ∀ {A : Around} {Q E : Value → Shared → Prop}, AOK n A → 1 ≤ s.toks → (∀ val h' tk, 1 ≤ tk → Fr h₀ L h' m → GL L s.heap h' → VR prog w X h' v val → Q val { s with heap := h', toks := tk }) → wpAny (model prog w) A t Q E s
noncomputable def WBT (prog : Program) (w : World) (n : Nat) (h₀ : Heap) (L : Addr) (m : Str → Option Value) (s : Shared) (t : Sem Value) (b : Bool) : Prop :=
  ∀ {A : Around} {Q E : Value → Shared → Prop}, AOK n A → 1 ≤ s.toks → (∀ h' tk, 1 ≤ tk → Fr h₀ L h' m → GL L s.heap h' → Q (.bool b) { s with heap := h', toks := tk }) → wpAny (model prog w) A t Q E s
section
variable {prog : Program} {w : World} {n : Nat} {X : Ex} {s : Shared} {h₀ h h' : Heap} {L : Addr} {K : Frag} {m mg mb : Str → Option Value}
theorem WP.t {t : Sem Value} {v : V} (x : WP prog w n X h₀ L m s t v) : WPT prog w n X h₀ L m s t v := fun ha ht k =>
  wpAny_with_toks ht (wpAny_mono (x ha fun val h' tk F g hv => fun q => k val h' tk q F g hv) (fun _ _ y => y) fun _ _ y => fun _ => y)
theorem WB.t {t : Sem Value} {b : Bool} (x : WB prog w n h₀ L m s t b) : WBT prog w n h₀ L m s t b := fun ha ht k =>
  wpAny_with_toks ht (wpAny_mono (x ha fun h' tk F g => fun q => k h' tk q F g) (fun _ _ y => y) fun _ _ y => fun _ => y)

theorem VRs.strs : ∀ {l : List (Str × Tok)} {xs : List Str}, l.map (·.1) = xs → VRs prog w X h (unS xs) (strValues l)
  | [], _, e => by cases e; rfl
  | p :: l, _, e => by
    cases e
    refine ⟨.str p.1 p.2, _, rfl, ⟨p.2, ?_⟩, VRs.strs (l := l) rfl⟩
    rw [mkS_cps]

theorem len_ok {a r : V} {x : Value} (S : St prog K mg mb X h₀ L m s.heap) (hx : VR prog w X s.heap a x) (e : lenV a = some r) : WP prog w n X h₀ L m s (call (.builtin "len") [x]) r := by
  intro A Q E ha k
  unfold lenV at e
  split at e
  · split at e <;> cases e
    rename_i l h
    obtain ⟨t, xs, rfl, nX, ht, hr⟩ := hx
    unfold big at h
    refine call_len_list ht.l (by rw [List.size_toArray, hr.length]; omega) ?_
    rw [List.size_toArray, hr.length]
    exact k _ _ _ S.f (GL.refl _) ⟨_, rfl⟩
  · split at e <;> cases e
    rename_i l h
    obtain ⟨t, xs, rfl, nX, ht, hr⟩ := hx
    unfold big at h
    refine PyProof.Rows.len_tuple (show IsTup s.heap t (List.toArray xs) from ht.l) (by rw [List.size_toArray, hr.length]; omega) ?_
    rw [List.size_toArray, hr.length]
    exact k _ _ _ S.f (GL.refl _) ⟨_, rfl⟩
  · cases e
theorem fresh_addr {D : Addr} {o : Obj} {h' : Heap} {l : List (Addr × Obj)} (S : St prog K mg mb X h₀ L m h) (N' : News h₀ L h' ((D, o) :: l)) (hl : l = ledg h₀ L h) (lt : ∀ p ∈ l, p.1 < D) : ¬ X D := fun y => by
  subst hl
  obtain ⟨o, ho⟩ := S.xd D y
  exact absurd (lt _ (ledg_mem ho (N' _ (.head _)).2.1 (N' _ (.head _)).2.2)) (Nat.lt_irrefl _)
theorem list_ok {a r : V} {x : Value} (S : St prog K mg mb X h₀ L m s.heap) (hx : VR prog w X s.heap a x) (e : listV a = some r) : WP prog w n X h₀ L m s (call (.type "list") [x]) r := by
  intro A Q E ha k
  unfold listV at e
  split at e
  · split at e <;> cases e
    rename_i l h
    obtain ⟨t, xs, rfl, nX, ht, hr⟩ := hx
    unfold big at h
    refine list_copyK S.f ledg_news ht.l (fun D c h' F' N' lt => ?_) (by rw [List.size_toArray, hr.length, sizeLine_eq]; omega)
    have g := ledg_gl1 S.f F' N'
    exact k _ _ _ F' g (VR.new_lst (fresh_addr S N' rfl lt) (N' _ (.head _)).1 (hr.gl S.xl g))
  · cases e
theorem tup_ok {l : List V} {xs : List Value} (S : St prog K mg mb X h₀ L m s.heap) (hr : VRs prog w X s.heap l xs) (hl : l.length ≤ big) : WP prog w n X h₀ L m s (newTuple xs) (.tup l) := by
  intro A Q E ha k
  unfold big at hl
  refine newTuple_N S.f ledg_news (fun h' F' N' => ?_) (by rw [hr.length, sizeLine_eq]; omega)
  have g := ledg_gl1 S.f F' N'
  exact k _ _ _ F' g (VR.new_tup S.xd.new (N' _ (.head _)).1 (hr.gl S.xl g))
theorem lst_ok {l : List V} {xs : List Value} (S : St prog K mg mb X h₀ L m s.heap) (hr : VRs prog w X s.heap l xs) (hl : l.length ≤ big) : WP prog w n X h₀ L m s (newList xs) (.lst l) := by
  intro A Q E ha k
  unfold big at hl
  refine newList_N S.f ledg_news (fun h' F' N' => ?_) (by rw [hr.length, sizeLine_eq]; omega)
  have g := ledg_gl1 S.f F' N'
  exact k _ _ _ F' g (VR.new_lst S.xd.new (N' _ (.head _)).1 (hr.gl S.xl g))

/-- where a method lives -/
noncomputable def methId : Nat → String
  | 0 => "dict.get"
  | 1 => "str.split"
  | _ => "tuple.index"
theorem idxV_spec {x : V} : ∀ {l : List V} {j : Nat}, idxV x l = some j → ∃ y, l[j]? = some y ∧ PyData.eqv (toP y) (toP x) = true ∧ ∀ m z, m < j → l[m]? = some z → PyData.eqv (toP z) (toP x) = false
  | y :: l, j, e => by
    simp only [idxV] at e
    split at e
    · rename_i h
      cases e
      exact ⟨y, rfl, h, fun m z hm => absurd hm (Nat.not_lt_zero _)⟩
    · rename_i h
      obtain ⟨k, hk, rfl⟩ := Option.map_eq_some_iff.mp e
      obtain ⟨z, h1, h2, h3⟩ := idxV_spec hk
      refine ⟨z, by simpa using h1, h2, fun m u hm hu => ?_⟩
      cases m with
      | zero => simp at hu; subst hu; simpa using h
      | succ m => exact h3 m u (by omega) (by simpa using hu)
theorem idx_ok {l : List V} {x : List Nat} {j : Nat} {t u : Value} (S : St prog K mg mb X h₀ L m s.heap) (ht : VR prog w X s.heap (.tup l) t) (hu : VR prog w X s.heap (.str x) u) (hf : allFlat l = true) (e : idxV (.str x) l = some j) :
    WP prog w n X h₀ L m s (call (.builtin "tuple.index") [t, u]) (.int j) := by
  intro A Q E ha k
  obtain ⟨a, xs, rfl, _, ⟨nn, ho⟩, hr⟩ := ht
  obtain ⟨y, h1, h2, h3⟩ := idxV_spec e
  obtain ⟨yv, hyv, hyr⟩ := hr.get h1
  have hj : j < (List.toArray xs).size := by
    rw [List.getElem?_eq_some_iff] at hyv
    simpa using hyv.1
  have he1 : PyData.eqv (valP ((List.toArray xs)[j])) (toP (.str x)) = true := by
    have e1 : (List.toArray xs)[j] = yv := by
      rw [List.getElem?_eq_some_iff] at hyv
      simpa using hyv.2
    rw [e1, valP_of hyr (allFlat_mem hf (List.mem_of_getElem? h1))]
    exact h2
  refine call_meets (rest := [u]) PySem.F.slot_tuple_index (⟨_, ho, rfl⟩ : s.TypeIs (.ref a) "tuple") PySem.F.entry_tuple_index (PySem.F.args_tuple_index_2 _ _)
    (tuple_indexAt a (List.toArray xs) nn none #[] u (fun y => PyData.eqv (valP y) (toP (.str x))) j hj he1 (fun m hm hmj => ?_)) ⟨ho, fun z hz => ?_, ?_⟩
  · have hm' : m < xs.length := by simpa using hm
    have hml : m < l.length := by rw [← hr.length]; exact hm'
    obtain ⟨zv, hzv, hzr⟩ := hr.get (List.getElem?_eq_getElem hml)
    have e1 : (List.toArray xs)[m] = zv := by
      rw [List.getElem?_eq_some_iff] at hzv
      simpa using hzv.2
    rw [e1, valP_of hzr (allFlat_mem hf (List.getElem_mem hml))]
    exact h3 m _ hmj (List.getElem?_eq_getElem hml)
  · obtain ⟨v, hv, hvr⟩ := hr.mem (by simpa using hz)
    rw [valP_of hvr (allFlat_mem hf hv)]
    exact flat_eq hvr hu (allFlat_mem hf hv) rfl
  · exact k _ _ _ S.f (GL.refl _) ⟨_, rfl⟩
theorem meth_ok {i : Nat} {a b r : V} {x y : Value} (S : St prog K mg mb X h₀ L m s.heap) (hx : VR prog w X s.heap a x) (hy : VR prog w X s.heap b y) (e : methV i a b = some r) : WP prog w n X h₀ L m s (call (.builtin (methId i)) [x, y]) r := by
  intro A Q E ha k
  unfold methV at e
  split at e
  · split at e <;> cases e
    · rename_i ks vs i
      obtain ⟨d, xs, rfl, nX, da, hl, la, hv⟩ := hx
      obtain ⟨t, rfl⟩ := hy
      refine call_meetsIn PySem.F.slot_dict_get da.typeIs PySem.F.entry_dict_get (PySem.F.args_dict_get_2 _ _) (meets_dict_get (intKind prog w) d (intKind_is _ _ _ _) la) ⟨_, da.mapOf, ?_⟩
      have q := lookI_at (i := i) hv hl
      cases hk : lookI ks vs i with
      | none => rw [hk] at k; rw [q.2 hk]; exact k _ _ _ S.f (GL.refl _) rfl
      | some u => rw [hk] at k; obtain ⟨z, hz, hzr⟩ := q.1 u hk; rw [hz]; exact k _ _ _ S.f (GL.refl _) hzr
    · rename_i ks vs i
      obtain ⟨d, xs, rfl, nX, da, hl, la, hv⟩ := hx
      obtain ⟨t, rfl⟩ := hy
      refine call_meetsIn PySem.F.slot_dict_get da.typeIs PySem.F.entry_dict_get (PySem.F.args_dict_get_2 _ _) (meets_dict_get (strKind prog w) d (strKind_is _ _ _ _) la) ⟨_, da.mapOf, ?_⟩
      have q := lookS_at (i := i) hv hl
      cases hk : lookS ks vs i with
      | none => rw [hk] at k; rw [q.2 hk]; exact k _ _ _ S.f (GL.refl _) rfl
      | some u => rw [hk] at k; obtain ⟨z, hz, hzr⟩ := q.1 u hk; rw [hz]; exact k _ _ _ S.f (GL.refl _) hzr
  · split at e <;> try (cases e; done)
    split at e <;> cases e
    rename_i x y h
    obtain ⟨t, rfl⟩ := hx
    obtain ⟨u, rfl⟩ := hy
    unfold big at h
    refine splitN1 S.f ledg_news (by rw [str_le]; exact beq_eq_false_iff_ne.mpr (by omega)) (fun l h' tk el F' N' => ?_) (by rw [str_le, sizeLine_eq]; omega)
    have g := ledg_gl1 S.f F' N'
    exact k _ _ _ F' g (VR.new_lst S.xd.new (N' _ (.head _)).1 (VRs.strs el))
  · split at e <;> try (cases e; done)
    split at e <;> try (cases e; done)
    rename_i hl
    have : ∀ j : Nat, (∀ _ : j = 0, False) → (∀ _ : j = 1, False) → methId j = "tuple.index" := by
      intro j h0 h1
      match j with
      | 0 => exact (h0 rfl).elim
      | 1 => exact (h1 rfl).elim
      | j + 2 => rfl
    rw [this _ (by assumption) (by assumption)]
    obtain ⟨j, hj, rfl⟩ := Option.map_eq_some_iff.mp e
    exact idx_ok S hx hy hl.2 hj ha k
end
end Mine

namespace Mine
noncomputable def bName : Nat → Str
  | 0 => Str.ofString "len"
  | 1 => Str.ofString "list"
  | 2 => Str.ofString "enumerate"
  | _ => Str.ofString "range"
noncomputable def bVal : Nat → Value
  | 0 => .builtin "len"
  | 1 => .type "list"
  | 2 => .type "enumerate"
  | _ => .type "range"
/-- the def of that name gives v of xs, wherever it is called with room for n more -/
noncomputable def CallOK (prog : Program) (w : World) (K : Frag) (n : Nat) (mg mb : Str → Option Value) (name : Str) (xs : List V) (v : V) : Prop :=
  ∃ a o fd, mg name = some (.ref a) ∧ K.lookup a = some o ∧ o.data = .func fd ∧
    ∀ (X : Ex) (h₀ : Heap) (L : Addr) (m : Str → Option Value) (s : Shared) (vals : List Value), St prog K mg mb X h₀ L m s.heap → VRs prog w X s.heap xs vals → WPT prog w n X h₀ L m s (call (.ref a) vals) v

structure Cx (prog : Program) (w : World) (K : Frag) (n : Nat) (N : Nm) (W : Wd) (mg mb : Str → Option Value) (X : Ex) (r : List (Option V)) (env : Env) (h₀ : Heap) (m : Str → Option Value) (h : Heap) : Prop where
  st : St prog K mg mb X h₀ env.locals m h
  eg : env.globals = mainGlobals
  eb : env.builtins = builtinsNs
  ek : env.scope.kind = .function
  loc : ∀ i v, locV r i = some v → (N.l i == ("__debug__" : Str)) = false ∧ ((env.kindOf (N.l i) = some .local ∧ ∃ val, m (N.l i) = some val ∧ VR prog w X h v val) ∨
    (env.kindOf (N.l i) = some .cell ∧ ∃ c val, env.cells.lookup (N.l i) = some c ∧ ¬ X c ∧ h.IsCell c (some val) ∧ VR prog w X h v val))
  glo : ∀ g v, W.g g = some v → (N.g g == ("__debug__" : Str)) = false ∧ env.kindOf (N.g g) = some .globalImplicit ∧ ∃ val, mg (N.g g) = some val ∧ VR prog w X h v val
  fn : ∀ f xs v, W.f f xs = some v → (N.f f == ("__debug__" : Str)) = false ∧ env.kindOf (N.f f) = some .globalImplicit ∧ CallOK prog w K n mg mb (N.f f) xs v
  blt : ∀ b, W.b b = true → (bName b == ("__debug__" : Str)) = false ∧ env.kindOf (bName b) = some .globalImplicit ∧ mg (bName b) = none ∧ mb (bName b) = some (bVal b)

section
variable {prog : Program} {w : World} {K : Frag} {n : Nat} {N : Nm} {W : Wd} {X : Ex} {r : List (Option V)} {env : Env} {h₀ h h' : Heap} {m mg mb : Str → Option Value} {s : Shared}
theorem Cx.gl (C : Cx prog w K n N W mg mb X r env h₀ m h) (F : Fr h₀ env.locals h' m) (g : GL env.locals h h') : Cx prog w K n N W mg mb X r env h₀ m h' where
  st := C.st.gl F g
  eg := C.eg
  eb := C.eb
  ek := C.ek
  loc := fun i v e => by
    obtain ⟨a, b⟩ := C.loc i v e
    refine ⟨a, b.elim (fun ⟨k, val, hm, hv⟩ => .inl ⟨k, val, hm, hv.gl C.st.xl g⟩) fun ⟨k, c, val, hc, hX, ⟨o, ho, hd⟩, hv⟩ => .inr ⟨k, c, val, hc, hX, ⟨o, g c o (fun q => hX (q ▸ C.st.xl)) ho, hd⟩, hv.gl C.st.xl g⟩⟩
  glo := fun i v e => by
    obtain ⟨a, b, val, hm, hv⟩ := C.glo i v e
    exact ⟨a, b, val, hm, hv.gl C.st.xl g⟩
  fn := C.fn
  blt := C.blt

theorem Cx.gl_loc (C : Cx prog w K n N W mg mb X r env h₀ m h) (g : GL env.locals h h') : ∀ i v, locV r i = some v → (N.l i == ("__debug__" : Str)) = false ∧ ((env.kindOf (N.l i) = some .local ∧ ∃ val, m (N.l i) = some val ∧ VR prog w X h' v val) ∨
    (env.kindOf (N.l i) = some .cell ∧ ∃ c val, env.cells.lookup (N.l i) = some c ∧ ¬ X c ∧ h'.IsCell c (some val) ∧ VR prog w X h' v val)) := fun i v e => by
  obtain ⟨a, b⟩ := C.loc i v e
  exact ⟨a, b.elim (fun ⟨k, val, hm, hv⟩ => .inl ⟨k, val, hm, hv.gl C.st.xl g⟩) fun ⟨k, c, val, hc, hX, ⟨o, ho, hd⟩, hv⟩ => .inr ⟨k, c, val, hc, hX, ⟨o, g c o (fun q => hX (q ▸ C.st.xl)) ho, hd⟩, hv.gl C.st.xl g⟩⟩
theorem St.gl' {L : Addr} {m' : Str → Option Value} (S : St prog K mg mb X h₀ L m h) (F : Fr h₀ L h' m') (g : GL L h h') : St prog K mg mb X h₀ L m' h' := ⟨S.b, S.xl, S.xd.gl F g, F, S.xk⟩

theorem loc_ok {i : Nat} {v : V} {p : Pos} (C : Cx prog w K n N W mg mb X r env h₀ m s.heap) (e : locV r i = some v) : WP prog w n X h₀ env.locals m s (eval (.Name (N.l i) p) env) v := by
  intro A Q E ha k
  obtain ⟨hd, b⟩ := C.loc i v e
  rcases b with ⟨hk, val, hm, hv⟩ | ⟨hk, c, val, hc, hX, hcell, hv⟩
  · exact wpAny_Name (wpAny_loadName_local C.ek hk C.st.f.ns hm (k _ _ _ C.st.f (GL.refl _) hv)) hd
  · exact wpAny_Name (wpAny_loadName_cell C.ek hk hc hcell (k _ _ _ C.st.f (GL.refl _) hv)) hd
theorem glo_ok {i : Nat} {v : V} {p : Pos} (C : Cx prog w K n N W mg mb X r env h₀ m s.heap) (e : W.g i = some v) : WP prog w n X h₀ env.locals m s (eval (.Name (N.g i) p) env) v := by
  intro A Q E ha k
  obtain ⟨hd, hk, val, hm, hv⟩ := C.glo i v e
  exact Name_function_global C.ek hk (loadGlobal_global (env := env) (by rw [C.eg]; exact C.st.hb.g) hm (k _ _ _ C.st.f (GL.refl _) hv)) hd
theorem bname_ok {i : Nat} {p : Pos} {A : Around} {Q E : Value → Shared → Prop} (C : Cx prog w K n N W mg mb X r env h₀ m s.heap) (e : W.b i = true) (k : Q (bVal i) s) : wpAny (model prog w) A (eval (.Name (bName i) p) env) Q E s := by
  obtain ⟨hd, hk, hm, hv⟩ := C.blt i e
  exact Name_function_global C.ek hk (loadGlobal_builtin (env := env) (by rw [C.eg]; exact C.st.hb.g) hm (by rw [C.eb]; exact C.st.hb.b) hv k) hd

/-- the trees of a list of arguments -/
noncomputable def trees (N : Nm) (env : Env) : Es → List (Bool × Sem Value)
  | .nil => []
  | .cons e l => (false, eval (e.py N) env) :: trees N env l
theorem star_one (e : E) (rest : List PE) : starEach (e.py N :: rest) env = (false, eval (e.py N) env) :: starEach rest env := by
  cases e <;> rfl
theorem star_trees : ∀ l : Es, starEach (l.py N) env = trees N env l
  | .nil => rfl
  | .cons e l => by
    show starEach (e.py N :: l.py N) env = _
    rw [star_one, star_trees l]; rfl
theorem back_trees {p : Pos} : ∀ l : Es, backTo p (trees N env l) = trees N env l
  | .nil => rfl
  | .cons e l => by
    show (false, _) :: backTo p (trees N env l) = _
    rw [back_trees l]; rfl
theorem trees_plain : ∀ l : Es, (trees N env l).any (·.1) = false
  | .nil => rfl
  | .cons e l => by
    show (false || (trees N env l).any (·.1)) = false
    rw [trees_plain l]; rfl
end
end Mine

namespace Mine
section
variable {prog : Program} {w : World} {K : Frag} {n : Nat} {N : Nm} {W : Wd} {X : Ex} {r : List (Option V)} {env : Env} {h₀ h h' : Heap} {m mg mb : Str → Option Value}

theorem not_slice (e : E) : ∀ a b c d, e.py N ≠ .Slice a b c d := by
  intro a b c d
  cases e <;> (intro q; cases q)
theorem not_set (op : CmpOp) (e : E) : behindInMarks op (e.py N) = false := by
  cases e <;> rfl
theorem asB_map {o : Option V} {b : Bool} (h : asB o = some b) : o = some (.bool b) := by
  unfold asB at h
  split at h
  · cases h; rfl
  · cases h
theorem isTrue_loc {i : Nat} {p : Pos} {x : Sem Value} : isTrue (.Name (N.l i) p) env x = (do let v ← x; standAt (PySem.Expr.Name (N.l i) p).pos; holding [v] (truthy v)) := rfl
noncomputable abbrev SV (prog : Program) (w : World) (n : Nat) (X : Ex) (h₀ : Heap) (L : Addr) (m : Str → Option Value) (s : Shared) (t : Sem (List Value)) (vs : List V) : Prop :=
  ∀ {A : Around} {Q : List Value → Shared → Prop} {E : Value → Shared → Prop}, AOK n A → 1 ≤ s.toks → (∀ vals h' tk, 1 ≤ tk → Fr h₀ L h' m → GL L s.heap h' → VRs prog w X h' vs vals → Q vals { s with heap := h', toks := tk }) → wpAny (model prog w) A t Q E s
noncomputable abbrev TV (prog : Program) (w : World) (n : Nat) (h₀ : Heap) (L : Addr) (m : Str → Option Value) (s : Shared) (t : Sem Bool) (b : Bool) : Prop :=
  ∀ {A : Around} {Q : Bool → Shared → Prop} {E : Value → Shared → Prop}, AOK n A → 1 ≤ s.toks → (∀ h' tk, 1 ≤ tk → Fr h₀ L h' m → GL L s.heap h' → Q b { s with heap := h', toks := tk }) → wpAny (model prog w) A t Q E s

section
variable {M : Model} {A : Around} {E : Value → Shared → Prop} {s : Shared}
theorem testChain_cons2 {p : Pos} {a : Value} {o1 o2 : CmpOp} {t1 t2 : Sem Value} {Q : Bool → Shared → Prop}
    (hh : wpAny M A t1 (fun b s₁ => wpAny M A (compareOp o1 a b) (fun c s₂ => wpAny M A (truthy c) (fun d s₃ => if d then wpAny M A (testChain p b [o2] [t2]) Q E s₃ else Q false s₃) E s₂) E s₁) E s) :
    wpAny M A (testChain p a [o1, o2] [t1, t2]) Q E s := by
  show wpAny M A (do
    let rv ← holding [a] t1
    standAt p
    let c ← holding [a, rv] (compareOp o1 a rv)
    release [a, rv] [c]
    if ← holding [c, rv] (truthy c) then testChain p rv [o2] [t2] else pure false) Q E s
  refine wpAny_bind (wpAny_holding (wpAny_mono hh (fun b s₁ h₁ => wpAny_bind (wpAny_standAt (wpAny_bind (wpAny_holding (wpAny_mono h₁ (fun c s₂ h₂ => wpAny_bind (wpAny_release (wpAny_bind (wpAny_holding (wpAny_mono h₂ (fun d s₃ h₃ => ?_) fun _ _ y => y))))) fun _ _ y => y))))) fun _ _ y => y))
  cases d with
  | true => exact h₃
  | false => exact wpAny_pure h₃
theorem testChain_one {p : Pos} {a : Value} {o : CmpOp} {t : Sem Value} {Q : Bool → Shared → Prop}
    (hh : wpAny M A t (fun b s₁ => wpAny M A (compareOp o a b) (fun c s₂ => wpAny M A (truthy c) Q E s₂) E s₁) E s) :
    wpAny M A (testChain p a [o] [t]) Q E s := by
  show wpAny M A (do
    let rv ← holding [a] t
    standAt p
    let c ← operate [a, rv] (compareOp o a rv)
    holding [c] (truthy c)) Q E s
  exact wpAny_bind (wpAny_holding (wpAny_mono hh (fun b s₁ h₁ => wpAny_bind (wpAny_standAt (wpAny_bind (wpAny_operating (wpAny_mono h₁ (fun c s₂ h₂ => wpAny_holding h₂) fun _ _ y => y))))) fun _ _ y => y))
end
theorem meth_eq {a b : E} {i : Nat} {pa p : Pos} (hn : isNm a = true) (hp : (pa.endLine == p.line) = true) : eval (E.py N (.meth a i b pa p)) env = (do
    let ov ← eval (a.py N) env
    standAt pa.atName
    let (f, first) ← holding [ov] (getMethod ov (methN i) (do return (← importBound (a.py N) env).getD true))
    callWith p f first (backTo p (starEach [b.py N] env)) []) := by
  have e1 : eval (E.py N (.meth a i b pa p)) env = (do
      let ov ← eval (a.py N) env
      standAt pa.atName
      methodCall (a.py N) (methN i) pa p env ov 1 (backTo p (starEach [b.py N] env)) []) := by
    cases a <;> first | rfl | (simp [isNm] at hn)
  rw [e1]
  unfold methodCall
  rw [star_one]
  have e2 : methodCallPos (methodCallForm 1 (backTo p ((false, eval (b.py N) env) :: starEach [] env)) []) (a.py N) env pa p = pure p := by
    unfold methodCallPos
    rw [hp]
    rfl
  rw [e2]
  rfl
theorem repl_eq {a : E} {y z : List Nat} {k1 k2 : Nat} {p1 p2 pa p : Pos} (hn : isNm a = true) (hp : (pa.endLine == p.line) = true) : eval (E.py N (.repl a y z k1 k2 p1 p2 pa p)) env = (do
    let ov ← eval (a.py N) env
    standAt pa.atName
    let (f, first) ← holding [ov] (getMethod ov (Str.ofString "replace") (do return (← importBound (a.py N) env).getD true))
    callWith p f first (backTo p (starEach [.Constant (.str (mkS y)) k1 p1, .Constant (.str (mkS z)) k2 p2] env)) []) := by
  have e1 : eval (E.py N (.repl a y z k1 k2 p1 p2 pa p)) env = (do
      let ov ← eval (a.py N) env
      standAt pa.atName
      methodCall (a.py N) (Str.ofString "replace") pa p env ov 2 (backTo p (starEach [.Constant (.str (mkS y)) k1 p1, .Constant (.str (mkS z)) k2 p2] env)) []) := by
    cases a <;> first | rfl | (simp [isNm] at hn)
  rw [e1]
  unfold methodCall
  have e2 : methodCallPos (methodCallForm 2 (backTo p (starEach [.Constant (.str (mkS y)) k1 p1, .Constant (.str (mkS z)) k2 p2] env)) []) (a.py N) env pa p = pure p := by
    unfold methodCallPos
    rw [hp]
    rfl
  rw [e2]
  rfl
theorem getMeth_ok {i : Nat} {a b v : V} {x : Value} {s : Shared} {pl : Sem Bool} {A : Around} {L : Addr} {Q : Value × List Value → Shared → Prop} {E : Value → Shared → Prop} (S : St prog K mg mb X h₀ L m s.heap) (hx : VR prog w X s.heap a x) (e : methV i a b = some v) (k : Q (.builtin (methId i), [x]) s) :
    wpAny (model prog w) A (getMethod x (methN i) pl) Q E s := by
  unfold methV at e
  split at e
  · split at e <;> cases e
    · obtain ⟨d, xs, rfl, nX, da, hl, la, hv⟩ := hx
      exact getMethod_builtin da.typeIs PySem.F.plainAttrs_dict PySem.F.slot_dict_get PySem.F.type_dict_get da.mapOf.noDict k
    · obtain ⟨d, xs, rfl, nX, da, hl, la, hv⟩ := hx
      exact getMethod_builtin da.typeIs PySem.F.plainAttrs_dict PySem.F.slot_dict_get PySem.F.type_dict_get da.mapOf.noDict k
  · split at e <;> try (cases e; done)
    obtain ⟨t, rfl⟩ := hx
    exact GM.split k
  · rename_i h0 h1
    split at e <;> try (cases e; done)
    obtain ⟨d, xs, rfl, nX, ⟨nn, ho⟩, hv⟩ := hx
    have e1 : methN i = Str.ofString "index" := by
      match i with
      | 0 => exact (h0 rfl).elim
      | 1 => exact (h1 rfl).elim
      | j + 2 => rfl
    have e2 : methId i = "tuple.index" := by
      match i with
      | 0 => exact (h0 rfl).elim
      | 1 => exact (h1 rfl).elim
      | j + 2 => rfl
    rw [e1]
    rw [e2] at k
    refine getMethod_builtin (T := "tuple") ⟨_, ho, rfl⟩ PySem.F.plainAttrs_tuple PySem.F.slot_tuple_index PySem.F.type_tuple_index (fun a q => ?_) k
    cases q
    exact ⟨_, ho, rfl⟩
theorem call_ok {f : Nat} {xs : List V} {v : V} {pf p : Pos} {l : Es} {s : Shared} (C : Cx prog w K n N W mg mb X r env h₀ m s.heap) (e : W.f f xs = some v) (hl : SV prog w n X h₀ env.locals m s (spliced (trees N env l)) xs) (hn : l = .nil → xs = []) :
    WPT prog w n X h₀ env.locals m s (eval (E.py N (.call f l pf p)) env) v := by
  intro A Q E ha ht k
  obtain ⟨hd, hk, a, o, fd, hm, ho, hf, call⟩ := C.fn f xs v e
  refine Call_ (Name_function_global C.ek hk (loadGlobal_global (env := env) (by rw [C.eg]; exact C.st.hb.g) hm ?_) hd) rfl
  cases l with
  | nil =>
    have hx := hn rfl
    subst hx
    refine callWith_function (o := o) (fd := fd) (PyProof.Rows.evalArgs_none ⟨⟨C.st.hb.k a o ho, hf⟩, ?_⟩)
    exact call X h₀ env.locals m _ [] C.st rfl ha ht k
  | cons e' l' =>
    refine callWith_def (o := o) (fd := fd) hf ?_ (star_one e' (l'.py N))
    have : backTo p (starEach (e'.py N :: l'.py N) env) = trees N env (.cons e' l') := by
      show backTo p (starEach ((Es.cons e' l').py N) env) = _
      rw [star_trees, back_trees]
    rw [this]
    refine hl ha ht fun vals h' tk t1 F g hv => ⟨(C.st.gl F g).hb.k a o ho, ?_⟩
    exact call X h₀ env.locals m _ vals (C.st.gl F g) hv ha t1 fun val h2 tk2 t2 F2 g2 hv2 => k val h2 tk2 t2 F2 (g.trans g2) hv2

theorem lits_I {env : Env} {p : Pos} {A : Around} {E : Value → Shared → Prop} : ∀ (ks vs : List (Int × Nat × Pos)) (s : Shared) (Q : List (Value × Value) → Shared → Prop), ks.length = vs.length →
    (∀ (l : List (Value × Value)) tk, PySem.allIntKeys l = true → PySem.intKeyPairs l = (ks.map (·.1)).zip (l.map (·.2)) → VRs prog w X h (vs.map fun v => .int v.1) (l.map (·.2)) → Q l { s with toks := tk }) →
    wpAny (model prog w) A (evalPairs (pairTrees (ks.map fun k => some (.Constant (.int k.1) k.2.1 k.2.2)) (vs.map fun k => .Constant (.int k.1) k.2.1 k.2.2) env p)) Q E s := by
  intro ks
  induction ks with
  | nil =>
    intro vs s Q hl k
    cases vs with
    | nil => exact pairTrees_nil_walk (k [] s.toks rfl rfl rfl)
    | cons y vs => simp at hl
  | cons x ks ih =>
    intro vs s Q hl k
    cases vs with
    | nil => simp at hl
    | cons y vs =>
      refine pairTrees_cons_walk (wpAny_Constant_int (wpAny_Constant_int ?_))
      refine ih vs _ _ (by simpa using hl) fun l tk h1 h2 h3 => ?_
      refine k _ tk h1 ?_ ⟨_, _, rfl, ⟨_, rfl⟩, h3⟩
      show (x.1, _) :: PySem.intKeyPairs l = _
      rw [h2]; rfl
theorem lits_S {env : Env} {p : Pos} {A : Around} {E : Value → Shared → Prop} : ∀ (ks vs : List (List Nat × Nat × Pos)) (s : Shared) (Q : List (Value × Value) → Shared → Prop), ks.length = vs.length →
    (∀ (l : List (Value × Value)) tk, PySem.allStrKeys l = true → PySem.strPairs l = ((ks.map (·.1)).map mkS).zip (l.map (·.2)) → VRs prog w X h (vs.map fun v => .str v.1) (l.map (·.2)) → Q l { s with toks := tk }) →
    wpAny (model prog w) A (evalPairs (pairTrees (ks.map fun k => some (.Constant (.str (mkS k.1)) k.2.1 k.2.2)) (vs.map fun k => .Constant (.str (mkS k.1)) k.2.1 k.2.2) env p)) Q E s := by
  intro ks
  induction ks with
  | nil =>
    intro vs s Q hl k
    cases vs with
    | nil => exact pairTrees_nil_walk (k [] s.toks rfl rfl rfl)
    | cons y vs => simp at hl
  | cons x ks ih =>
    intro vs s Q hl k
    cases vs with
    | nil => simp at hl
    | cons y vs =>
      refine pairTrees_cons_walk (Constant_str (Constant_str ?_))
      refine ih vs _ _ (by simpa using hl) fun l tk h1 h2 h3 => ?_
      refine k _ tk h1 ?_ ⟨_, _, rfl, ⟨_, rfl⟩, h3⟩
      show (mkS x.1, _) :: PySem.strPairs l = _
      rw [h2]; rfl
theorem nodup_mkS {l : List (List Nat)} (h : l.Nodup) : (l.map mkS).Nodup := by
  rw [List.Nodup, List.pairwise_map]
  exact h.imp fun hab q => hab (mkS_inj.mp q)
theorem zip_fst' {α β : Type} : ∀ (a : List α) (b : List β), a.length = b.length → (a.zip b).map (·.1) = a
  | [], [], _ => rfl
  | x :: a, y :: b, h => by simp [zip_fst' a b (by simpa using h)]
theorem dctI_ok {env : Env} {ks vs : List (Int × Nat × Pos)} {p : Pos} {s : Shared} {L : Addr} (S : St prog K mg mb X h₀ L m s.heap) (h1 : ks.length = vs.length) (h2 : ks ≠ []) (h3 : ks.length ≤ 15) (h4 : (ks.map (·.1)).Nodup) :
    WP prog w n X h₀ L m s (eval (E.py N (.dctI ks vs p)) env) (.dI (ks.map (·.1)) (vs.map fun v => .int v.1)) := by
  intro A Q E ha k
  have new := S.xd.new
  refine wpAny_Dict_walk (knd := PySem.intKind prog w) (by simp) (by simpa using h1) (by simpa using h2) (by simpa using h3) ?_
  refine lits_I (X := X) (h := s.heap) ks vs _ _ h1 fun l tk e1 e2 e3 => ?_
  have el : (ks.map (·.1)).length = (l.map (·.2)).length := by rw [e3.length]; simpa using h1
  have ef : (PySem.intKeyPairs l).map (·.1) = ks.map (·.1) := by rw [e2]; exact zip_fst' _ _ el
  refine PySem.display_done_int e1 (ef ▸ h4) (Heap.DictOf.new (knd := PySem.intKind prog w) s.heap) fun h' d1 d2 => ?_
  have hs : Sub s.heap h' := fun b o e => by
    rw [d2.2 b (fun q => by subst q; exact absurd (Heap.lt_size e) (Nat.lt_irrefl _))]
    exact Heap.get?_push_of_some _ e
  have nm : (s.heap.objs.size == sysModules) = false := S.f.notModules (modules_low S.b.lim)
  refine k _ _ _ ⟨S.f.ns.keeps hs, fun b o e => hs b o (S.f.keep b o e), S.f.above⟩ (GL.of_sub hs) ⟨_, l.map (·.2), rfl, new, ?_, el, nm, e3.keeps hs⟩
  rw [← e2]; exact d1
theorem dctS_ok {env : Env} {ks vs : List (List Nat × Nat × Pos)} {p : Pos} {s : Shared} {L : Addr} (S : St prog K mg mb X h₀ L m s.heap) (h1 : ks.length = vs.length) (h2 : ks ≠ []) (h3 : ks.length ≤ 15) (h4 : (ks.map (·.1)).Nodup) :
    WP prog w n X h₀ L m s (eval (E.py N (.dctS ks vs p)) env) (.dS (ks.map (·.1)) (vs.map fun v => .str v.1)) := by
  intro A Q E ha k
  have new := S.xd.new
  refine wpAny_Dict_walk (knd := PySem.strKind prog w) (by simp) (by simpa using h1) (by simpa using h2) (by simpa using h3) ?_
  refine lits_S (X := X) (h := s.heap) ks vs _ _ h1 fun l tk e1 e2 e3 => ?_
  have el : ((ks.map (·.1)).map mkS).length = (l.map (·.2)).length := by rw [e3.length]; simpa using h1
  have ef : (PySem.strPairs l).map (·.1) = (ks.map (·.1)).map mkS := by rw [e2]; exact zip_fst' _ _ el
  have h5 : ((ks.map (·.1)).map mkS).Nodup := nodup_mkS h4
  refine PySem.display_done_str e1 (ef ▸ h5) (Heap.DictOf.new (knd := PySem.strKind prog w) s.heap) fun h' d1 d2 => ?_
  have hs : Sub s.heap h' := fun b o e => by
    rw [d2.2 b (fun q => by subst q; exact absurd (Heap.lt_size e) (Nat.lt_irrefl _))]
    exact Heap.get?_push_of_some _ e
  have nm : (s.heap.objs.size == sysModules) = false := S.f.notModules (modules_low S.b.lim)
  refine k _ _ _ ⟨S.f.ns.keeps hs, fun b o e => hs b o (S.f.keep b o e), S.f.above⟩ (GL.of_sub hs) ⟨_, l.map (·.2), rfl, new, ?_, (by simpa using el), nm, e3.keeps hs⟩
  rw [← e2]; exact d1

mutual
theorem ev_ok : ∀ (e : E) {v : V} {s : Shared}, ev W r e = some v → Cx prog w K n N W mg mb X r env h₀ m s.heap → WPT prog w n X h₀ env.locals m s (eval (e.py N) env) v
  | .none k p, v, s, e, C => by
    simp only [ev, Option.some.injEq] at e; subst e
    refine WP.t (show WP prog w n X h₀ env.locals m s _ _ from fun ha k => ?_); exact wpAny_pure (k .none _ _ C.st.f (GL.refl _) (show VR prog w X s.heap .none _ from rfl))
  | .bool b k p, v, s, e, C => by
    simp only [ev, Option.some.injEq] at e; subst e
    refine WP.t (show WP prog w n X h₀ env.locals m s _ _ from fun ha k => ?_); exact wpAny_pure (k (.bool b) _ _ C.st.f (GL.refl _) (show VR prog w X s.heap (.bool b) _ from rfl))
  | .int i k p, v, s, e, C => by
    simp only [ev, Option.some.injEq] at e; subst e
    refine WP.t (show WP prog w n X h₀ env.locals m s _ _ from fun ha k => ?_); exact wpAny_Constant_int (k _ _ _ C.st.f (GL.refl _) ⟨_, rfl⟩)
  | .str x k p, v, s, e, C => by
    simp only [ev, Option.some.injEq] at e; subst e
    refine WP.t (show WP prog w n X h₀ env.locals m s _ _ from fun ha k => ?_); exact Constant_str (k _ _ _ C.st.f (GL.refl _) ⟨_, rfl⟩)
  | .neg i k p1 p, v, s, e, C => by
    simp only [ev, Option.some.injEq] at e; subst e
    refine WP.t (show WP prog w n X h₀ env.locals m s _ _ from fun ha k => ?_); exact UnaryOp_ (wpAny_Constant_int (PyProof.Rows.neg_int (k _ _ _ C.st.f (GL.refl _) ⟨_, rfl⟩)))
  | .loc i p, v, s, e, C => WP.t (loc_ok C (by simpa [ev] using e))
  | .cel i p, v, s, e, C => WP.t (loc_ok C (by simpa [ev] using e))
  | .glo i p, v, s, e, C => WP.t (glo_ok C (by simpa [ev] using e))
  | .bin a op b p, v, s, e, C => by
    simp only [ev] at e
    split at e <;> try (cases e; done)
    rename_i x hx
    split at e <;> try (cases e; done)
    rename_i y hy
    intro ha ht k
    refine wpAny_BinOp (ev_ok a hx C ha ht fun va h1 t1 q1 F1 g1 v1 => ev_ok b hy (C.gl F1 g1) ha q1 fun vb h2 t2 q2 F2 g2 v2 => ?_)
    exact WP.t (bin_ok (C.st.gl F2 (g1.trans g2)) (v1.gl C.st.xl g2) v2 e) ha q2 fun vc h3 t3 q3 F3 g3 v3 => k vc h3 t3 q3 F3 ((g1.trans g2).trans g3) v3
  | .cmp a op b p, v, s, e, C => by
    simp only [ev] at e
    split at e <;> try (cases e; done)
    rename_i x hx
    split at e <;> try (cases e; done)
    rename_i y hy
    rw [Option.map_eq_some_iff] at e
    obtain ⟨c, e, rfl⟩ := e
    intro ha ht k
    refine wpAny_Compare1 (ev_ok a hx C ha ht fun va h1 t1 q1 F1 g1 v1 => ev_ok b hy (C.gl F1 g1) ha q1 fun vb h2 t2 q2 F2 g2 v2 => ?_) (not_set op b)
    exact WB.t (cmp_ok (C.st.gl F2 (g1.trans g2)) (v1.gl C.st.xl g2) v2 e) ha q2 fun h3 t3 q3 F3 g3 => k _ h3 t3 q3 F3 ((g1.trans g2).trans g3) rfl
  | .chn a o1 c o2 d p, v, s, e, C => by
    simp only [ev] at e
    split at e <;> try (cases e; done)
    rename_i x hx
    split at e <;> try (cases e; done)
    rename_i y hy
    intro ha ht k
    refine Compare_chain (ev_ok a hx C ha ht fun va h1 t1 q1 F1 g1 v1 => ?_) (show behindInMarks o2 (d.py N) = false from not_set o2 d)
    refine chain_link (ev_ok c hy (C.gl F1 g1) ha q1 fun vb h2 t2 q2 F2 g2 v2 => ?_)
    split at e <;> try (cases e; done)
    · rename_i h12
      split at e <;> try (cases e; done)
      rename_i z hz
      obtain ⟨bb, h34, rfl⟩ := Option.map_eq_some_iff.mp e
      refine (WB.t (cmp_ok (C.st.gl F2 (g1.trans g2)) (v1.gl C.st.xl g2) v2 h12)) ha q2 fun h3 t3 q3 F3 g3 => wpAny_truthy_bool ?_
      simp only [if_true]
      have g123 := (g1.trans g2).trans g3
      refine chain_last (ev_ok d hz (C.gl F3 g123) ha q3 fun vd h4 t4 q4 F4 g4 v4 => ?_)
      exact (WB.t (cmp_ok (C.st.gl F4 (g123.trans g4)) (v2.gl C.st.xl (g3.trans g4)) v4 h34)) ha q4 fun h5 t5 q5 F5 g5 => k _ h5 t5 q5 F5 ((g123.trans g4).trans g5) rfl
    · rename_i h12
      cases e
      refine (WB.t (cmp_ok (C.st.gl F2 (g1.trans g2)) (v1.gl C.st.xl g2) v2 h12)) ha q2 fun h3 t3 q3 F3 g3 => wpAny_truthy_bool ?_
      simp only [Bool.false_eq_true, if_false]
      exact k _ h3 t3 q3 F3 ((g1.trans g2).trans g3) rfl
  | .bop o a b p, v, s, e, C => by
    simp only [ev] at e
    split at e <;> try (cases e; done)
    rename_i c hc
    have hc := asB_map hc
    intro ha ht k
    cases o with
    | And =>
      refine BoolOp_and (ev_ok a hc C ha ht fun va h1 t1 q1 F1 g1 v1 => ?_)
      cases v1
      refine wpAny_truthy_bool ?_
      cases c with
      | false => cases e; exact k _ h1 t1 q1 F1 g1 rfl
      | true =>
        simp only [if_true, Option.map_eq_some_iff] at e ⊢
        obtain ⟨d, hd, rfl⟩ := e
        exact BoolOp_one (ev_ok b (asB_map hd) (C.gl F1 g1) ha q1 fun vb h2 t2 q2 F2 g2 v2 => k _ h2 t2 q2 F2 (g1.trans g2) v2)
    | Or =>
      refine BoolOp_or (ev_ok a hc C ha ht fun va h1 t1 q1 F1 g1 v1 => ?_)
      cases v1
      refine wpAny_truthy_bool ?_
      cases c with
      | true => cases e; exact k _ h1 t1 q1 F1 g1 rfl
      | false =>
        simp only [Bool.false_eq_true, if_false, Option.map_eq_some_iff] at e ⊢
        obtain ⟨d, hd, rfl⟩ := e
        exact BoolOp_one (ev_ok b (asB_map hd) (C.gl F1 g1) ha q1 fun vb h2 t2 q2 F2 g2 v2 => k _ h2 t2 q2 F2 (g1.trans g2) v2)
  | .bop3 _ _ _ _ _, v, s, e, C => by simp [ev] at e
  | .not _ _, v, s, e, C => by simp [ev] at e
  | .ite c a b p, v, s, e, C => by
    simp only [ev] at e
    intro ha ht k
    split at e <;> try (cases e; done)
    · rename_i hc
      refine IfExp_ (tv_ok c hc C ha ht fun h1 t1 q1 F1 g1 => ?_)
      exact ev_ok a e (C.gl F1 g1) ha q1 fun vb h2 t2 q2 F2 g2 v2 => k _ h2 t2 q2 F2 (g1.trans g2) v2
    · rename_i hc
      refine IfExp_ (tv_ok c hc C ha ht fun h1 t1 q1 F1 g1 => ?_)
      exact ev_ok b e (C.gl F1 g1) ha q1 fun vb h2 t2 q2 F2 g2 v2 => k _ h2 t2 q2 F2 (g1.trans g2) v2
  | .tup l k p, v, s, e, C => by
    simp only [ev] at e
    split at e <;> try (cases e; done)
    rename_i xs hx
    split at e <;> cases e
    rename_i hb
    intro ha ht k
    refine PyProof.Rows.Tuple_ ?_
    rw [star_trees, back_trees]
    exact evs_ok l hx C ha ht fun vals h1 t1 q1 F1 g1 v1 => WP.t (tup_ok (C.st.gl F1 g1) v1 hb) ha q1 fun vc h3 t3 q3 F3 g3 v3 => k vc h3 t3 q3 F3 (g1.trans g3) v3
  | .lst l p, v, s, e, C => by
    simp only [ev] at e
    split at e <;> try (cases e; done)
    rename_i xs hx
    split at e <;> cases e
    rename_i hb
    intro ha ht k
    refine PyProof.Rows.List_ ?_
    rw [star_trees, back_trees]
    exact evs_ok l hx C ha ht fun vals h1 t1 q1 F1 g1 v1 => WP.t (lst_ok (C.st.gl F1 g1) v1 hb) ha q1 fun vc h3 t3 q3 F3 g3 v3 => k vc h3 t3 q3 F3 (g1.trans g3) v3
  | .dctI ks vs p, v, s, e, C => by
    simp only [ev] at e
    split at e <;> cases e
    rename_i hh
    exact WP.t (dctI_ok C.st hh.1 hh.2.1 hh.2.2.1 hh.2.2.2)
  | .dctS ks vs p, v, s, e, C => by
    simp only [ev] at e
    split at e <;> cases e
    rename_i hh
    exact WP.t (dctS_ok C.st hh.1 hh.2.1 hh.2.2.1 hh.2.2.2)
  | .sub a i p, v, s, e, C => by
    simp only [ev] at e
    split at e <;> try (cases e; done)
    rename_i x hx
    split at e <;> try (cases e; done)
    rename_i y hy
    intro ha ht k
    refine Subscript_ (ev_ok a hx C ha ht fun va h1 t1 q1 F1 g1 v1 => ev_ok i hy (C.gl F1 g1) ha q1 fun vb h2 t2 q2 F2 g2 v2 => ?_)
    exact WP.t (sub_ok (not_slice i) (C.st.gl F2 (g1.trans g2)) (v1.gl C.st.xl g2) v2 e) ha q2 fun vc h3 t3 q3 F3 g3 v3 => k vc h3 t3 q3 F3 ((g1.trans g2).trans g3) v3
  | .slTo a i p1 p, v, s, e, C => by
    simp only [ev] at e
    split at e <;> try (cases e; done)
    rename_i x hx
    split at e <;> try (cases e; done)
    rename_i y hy
    split at e <;> try (cases e; done)
    rename_i hn
    intro ha ht k
    refine Subscript_ (ev_ok a hx C ha ht fun va h1 t1 q1 F1 g1 v1 => wpAny_Slice (wpAny_pure ?_))
    refine ev_ok i hy (C.gl F1 g1) ha q1 fun vb h2 t2 q2 F2 g2 v2 => wpAny_pure ?_
    refine wpAny_with_toks q2 ?_
    refine wpAny_mono (ev_slice_to (n := n) (C.st.gl F2 (g1.trans g2)) (v1.gl C.st.xl g2) v2 e ?_ ha fun vc h3 t3 F3 g3 v3 => fun q3 => k vc h3 t3 q3 F3 ((g1.trans g2).trans g3) v3) (fun _ _ y => y) fun _ _ y => fun _ => y
    intro l hl
    subst hl
    cases a <;> first
      | exact ⟨_, _, rfl⟩
      | (exfalso; simp only [isNm, Bool.false_or] at hn; cases x <;> simp [isS] at hn; obtain ⟨t, q⟩ := v1; cases q)
  | .slFr a i p1 p, v, s, e, C => by
    simp only [ev] at e
    split at e <;> try (cases e; done)
    rename_i x hx
    split at e <;> try (cases e; done)
    rename_i y hy
    intro ha ht k
    refine Subscript_ (ev_ok a hx C ha ht fun va h1 t1 q1 F1 g1 v1 => wpAny_Slice ?_)
    refine ev_ok i hy (C.gl F1 g1) ha q1 fun vb h2 t2 q2 F2 g2 v2 => wpAny_pure (wpAny_pure ?_)
    refine wpAny_with_toks q2 ?_
    exact wpAny_mono (ev_slice_fr (n := n) (C.st.gl F2 (g1.trans g2)) (v1.gl C.st.xl g2) v2 e ha fun vc h3 t3 F3 g3 v3 => fun q3 => k vc h3 t3 q3 F3 ((g1.trans g2).trans g3) v3) (fun _ _ y => y) fun _ _ y => fun _ => y
  | .call f l pf p, v, s, e, C => by
    simp only [ev] at e
    split at e <;> try (cases e; done)
    rename_i xs hx
    exact call_ok C e (evs_ok l hx C) (fun q => by subst q; simpa [evs] using hx.symm)
  | .len a pf p, v, s, e, C => by
    simp only [ev] at e
    split at e <;> try (cases e; done)
    rename_i x hx
    split at e <;> try (cases e; done)
    rename_i hb
    intro ha ht k
    refine Call_ (bname_ok (i := 0) C hb ?_) rfl
    refine callWith_builtin1 ?_ (star_one a []) rfl
    rw [star_one]
    refine spliced_cons (ev_ok a hx C ha ht fun va h1 t1 q1 F1 g1 v1 => spliced_nil ?_)
    exact WP.t (len_ok (C.st.gl F1 g1) v1 e) ha q1 fun vc h3 t3 q3 F3 g3 v3 => k vc h3 t3 q3 F3 (g1.trans g3) v3
  | .list a pf p, v, s, e, C => by
    simp only [ev] at e
    split at e <;> try (cases e; done)
    rename_i x hx
    split at e <;> try (cases e; done)
    rename_i hb
    intro ha ht k
    refine Call_ (bname_ok (i := 1) C hb ?_) rfl
    refine PyProof.Rows.callWith_type1 ?_ (star_one a []) rfl
    rw [star_one]
    refine spliced_cons (ev_ok a hx C ha ht fun va h1 t1 q1 F1 g1 v1 => spliced_nil ?_)
    exact WP.t (list_ok (C.st.gl F1 g1) v1 e) ha q1 fun vc h3 t3 q3 F3 g3 v3 => k vc h3 t3 q3 F3 (g1.trans g3) v3
  | .meth a i b pa p, v, s, e, C => by
    simp only [ev] at e
    split at e <;> try (cases e; done)
    rename_i hn
    rw [Bool.and_eq_true] at hn
    split at e <;> try (cases e; done)
    rename_i x hx
    split at e <;> try (cases e; done)
    rename_i y hy
    intro ha ht k
    refine MethodCall_ (pl := do return (← importBound (a.py N) env).getD true) (ev_ok a hx C ha ht fun va h1 t1 q1 F1 g1 v1 => getMeth_ok (C.st.gl F1 g1) v1 e ?_) (meth_eq hn.1 hn.2)
    show wpAny (model prog w) _ (callWith p (.builtin (methId i)) [va] (backTo p (starEach [b.py N] env)) []) _ _ _
    rw [star_one]
    refine callWith_builtin rfl (evalArgs_plain ?_)
    refine spliced_cons (ev_ok b hy (C.gl F1 g1) ha q1 fun vb h2 t2 q2 F2 g2 v2 => spliced_nil ?_)
    exact (WP.t (meth_ok (C.st.gl F2 (g1.trans g2)) (v1.gl C.st.xl g2) v2 e)) ha q2 fun vc h3 t3 q3 F3 g3 v3 => k vc h3 t3 q3 F3 ((g1.trans g2).trans g3) v3
  | .repl a y z k1 k2 p1 p2 pa p, v, s, e, C => by
    simp only [ev] at e
    split at e <;> try (cases e; done)
    rename_i hn
    rw [Bool.and_eq_true] at hn
    split at e <;> try (cases e; done)
    rename_i x hx
    unfold replV at e
    split at e <;> try (cases e; done)
    split at e <;> cases e
    rename_i x hb
    intro ha ht k
    refine MethodCall_ (pl := do return (← importBound (a.py N) env).getD true) (ev_ok a hx C ha ht fun va h1 t1 q1 F1 g1 v1 => ?_) (repl_eq hn.1 hn.2)
    obtain ⟨t, rfl⟩ := v1
    refine GM.replace ?_
    show wpAny (model prog w) _ (callWith p _ _ ((false, eval (.Constant (.str (mkS y)) k1 p1) env) :: (false, eval (.Constant (.str (mkS z)) k2 p2) env) :: []) []) _ _ _
    refine callWith_builtin rfl (evalArgs_plain ?_)
    refine spliced_cons (Constant_str (spliced_cons (Constant_str (spliced_nil ?_))))
    unfold big at hb
    refine wpAny_with_toks (n := 1) (by show 1 ≤ t1 + 1 + 1; omega) ?_
    refine SC.replace (by show t1 ≠ 0; omega) (by show t1 + 1 ≠ 0; omega) (by show t1 ≠ t1 + 1; omega) ?_ ?_ fun t' tk => ?_
    · exact beq_eq_false_iff_ne.mpr fun q => hb.2.1 (mkS_inj.mp q)
    · rw [str_le, str_le]
      have h14 := hb.2.2
      have : (x.length + 1) * z.length ≤ (x.length + 1) * 14 := Nat.mul_le_mul_left _ h14
      omega
    · intro q
      exact k _ h1 tk q F1 g1 ⟨t', by rw [mkS_cps]⟩
theorem evs_ok : ∀ (l : Es) {vs : List V} {s : Shared}, evs W r l = some vs → Cx prog w K n N W mg mb X r env h₀ m s.heap → SV prog w n X h₀ env.locals m s (spliced (trees N env l)) vs
  | .nil, vs, s, e, C => by
    simp only [evs, Option.some.injEq] at e; subst e
    intro ha ht k
    exact spliced_nil (k [] s.heap s.toks ht C.st.f (GL.refl _) rfl)
  | .cons a l, vs, s, e, C => by
    simp only [evs] at e
    split at e <;> try (cases e; done)
    rename_i x hx
    split at e <;> cases e
    rename_i xs hxs
    intro ha ht k
    refine spliced_cons (ev_ok a hx C ha ht fun va h1 t1 q1 F1 g1 v1 => evs_ok l hxs (C.gl F1 g1) ha q1 fun vb h2 t2 q2 F2 g2 v2 => ?_)
    exact k _ h2 t2 q2 F2 (g1.trans g2) ⟨va, vb, rfl, v1.gl C.st.xl g2, v2⟩
theorem tv_ok : ∀ (e : E) {b : Bool} {s : Shared}, tv W r e = some b → Cx prog w K n N W mg mb X r env h₀ m s.heap → TV prog w n h₀ env.locals m s (isTrue (e.py N) env (eval (e.py N) env)) b
  | .loc i p, b, s, e, C => by
    simp only [tv] at e
    intro ha ht k
    refine isTrue_plain ((WP.t (loc_ok C (asB_map e))) ha ht fun va h1 t1 q1 F1 g1 v1 => ?_) rfl
    cases v1
    exact wpAny_truthy_bool (k h1 t1 q1 F1 g1)
  | .call f l pf p, b, s, e, C => by
    simp only [tv] at e
    split at e <;> try (cases e; done)
    rename_i xs hx
    intro ha ht k
    refine isTrue_plain (call_ok C (asB_map e) (evs_ok l hx C) (fun q => by subst q; simpa [evs] using hx.symm) ha ht fun va h1 t1 q1 F1 g1 v1 => ?_) rfl
    cases v1
    exact wpAny_truthy_bool (k h1 t1 q1 F1 g1)
  | .cmp a op c p, b, s, e, C => by
    simp only [tv] at e
    split at e <;> try (cases e; done)
    rename_i x hx
    split at e <;> try (cases e; done)
    rename_i y hy
    intro ha ht k
    refine wpAny_isTrue_Compare1 (ev_ok a hx C ha ht fun va h1 t1 q1 F1 g1 v1 => ev_ok c hy (C.gl F1 g1) ha q1 fun vb h2 t2 q2 F2 g2 v2 => ?_) (not_set op c)
    exact WB.t (cmp_ok (C.st.gl F2 (g1.trans g2)) (v1.gl C.st.xl g2) v2 e) ha q2 fun h3 t3 q3 F3 g3 => wpAny_truthy_bool (k h3 t3 q3 F3 ((g1.trans g2).trans g3))
  | .chn a o1 c o2 d p, b, s, e, C => by
    simp only [tv] at e
    split at e <;> try (cases e; done)
    rename_i x hx
    split at e <;> try (cases e; done)
    rename_i y hy
    intro ha ht k
    refine isTrue_chain (ev_ok a hx C ha ht fun va h1 t1 q1 F1 g1 v1 => ?_) (show behindInMarks o2 (d.py N) = false from not_set o2 d)
    refine testChain_cons2 (ev_ok c hy (C.gl F1 g1) ha q1 fun vb h2 t2 q2 F2 g2 v2 => ?_)
    split at e <;> try (cases e; done)
    · rename_i h12
      split at e <;> try (cases e; done)
      rename_i z hz
      refine (WB.t (cmp_ok (C.st.gl F2 (g1.trans g2)) (v1.gl C.st.xl g2) v2 h12)) ha q2 fun h3 t3 q3 F3 g3 => wpAny_truthy_bool ?_
      simp only [if_true]
      have g123 := (g1.trans g2).trans g3
      refine testChain_one (ev_ok d hz (C.gl F3 g123) ha q3 fun vd h4 t4 q4 F4 g4 v4 => ?_)
      exact (WB.t (cmp_ok (C.st.gl F4 (g123.trans g4)) (v2.gl C.st.xl (g3.trans g4)) v4 e)) ha q4 fun h5 t5 q5 F5 g5 => wpAny_truthy_bool (k h5 t5 q5 F5 ((g123.trans g4).trans g5))
    · rename_i h12
      cases e
      refine (WB.t (cmp_ok (C.st.gl F2 (g1.trans g2)) (v1.gl C.st.xl g2) v2 h12)) ha q2 fun h3 t3 q3 F3 g3 => wpAny_truthy_bool ?_
      simp only [Bool.false_eq_true, if_false]
      exact k h3 t3 q3 F3 ((g1.trans g2).trans g3)
  | .bop o a c p, b, s, e, C => by
    simp only [tv] at e
    split at e <;> try (cases e; done)
    rename_i d hd
    intro ha ht k
    cases o with
    | And =>
      refine wpAny_isTrue_BoolOp (wpAny_allTrue_And_cons (tv_ok a hd C ha ht fun h1 t1 q1 F1 g1 => ?_))
      cases d with
      | false => cases e; exact k h1 t1 q1 F1 g1
      | true =>
        simp only [if_true] at e ⊢
        refine wpAny_allTrue_And_cons (tv_ok c e (C.gl F1 g1) ha q1 fun h2 t2 q2 F2 g2 => ?_)
        cases b with
        | false => exact k h2 t2 q2 F2 (g1.trans g2)
        | true => exact wpAny_allTrue_And_nil (k h2 t2 q2 F2 (g1.trans g2))
    | Or =>
      refine wpAny_isTrue_BoolOp (wpAny_allTrue_Or_cons (tv_ok a hd C ha ht fun h1 t1 q1 F1 g1 => ?_))
      cases d with
      | true => cases e; exact k h1 t1 q1 F1 g1
      | false =>
        simp only [Bool.false_eq_true, if_false] at e ⊢
        refine wpAny_allTrue_Or_cons (tv_ok c e (C.gl F1 g1) ha q1 fun h2 t2 q2 F2 g2 => ?_)
        cases b with
        | true => exact k h2 t2 q2 F2 (g1.trans g2)
        | false => exact wpAny_allTrue_Or_nil (k h2 t2 q2 F2 (g1.trans g2))
  | .bop3 o a c d p, b, s, e, C => by
    simp only [tv] at e
    split at e <;> try (cases e; done)
    rename_i d1 hd1
    intro ha ht k
    cases o with
    | And =>
      refine wpAny_isTrue_BoolOp (wpAny_allTrue_And_cons (tv_ok a hd1 C ha ht fun h1 t1 q1 F1 g1 => ?_))
      cases d1 with
      | false => cases e; exact k h1 t1 q1 F1 g1
      | true =>
        simp only [if_true] at e ⊢
        split at e <;> try (cases e; done)
        rename_i d2 hd2
        refine wpAny_allTrue_And_cons (tv_ok c hd2 (C.gl F1 g1) ha q1 fun h2 t2 q2 F2 g2 => ?_)
        cases d2 with
        | false => cases e; exact k h2 t2 q2 F2 (g1.trans g2)
        | true =>
          simp only [if_true] at e ⊢
          refine wpAny_allTrue_And_cons (tv_ok d e (C.gl F2 (g1.trans g2)) ha q2 fun h3 t3 q3 F3 g3 => ?_)
          cases b with
          | false => exact k h3 t3 q3 F3 ((g1.trans g2).trans g3)
          | true => exact wpAny_allTrue_And_nil (k h3 t3 q3 F3 ((g1.trans g2).trans g3))
    | Or =>
      refine wpAny_isTrue_BoolOp (wpAny_allTrue_Or_cons (tv_ok a hd1 C ha ht fun h1 t1 q1 F1 g1 => ?_))
      cases d1 with
      | true => cases e; exact k h1 t1 q1 F1 g1
      | false =>
        simp only [Bool.false_eq_true, if_false] at e ⊢
        split at e <;> try (cases e; done)
        rename_i d2 hd2
        refine wpAny_allTrue_Or_cons (tv_ok c hd2 (C.gl F1 g1) ha q1 fun h2 t2 q2 F2 g2 => ?_)
        cases d2 with
        | true => cases e; exact k h2 t2 q2 F2 (g1.trans g2)
        | false =>
          simp only [Bool.false_eq_true, if_false] at e ⊢
          refine wpAny_allTrue_Or_cons (tv_ok d e (C.gl F2 (g1.trans g2)) ha q2 fun h3 t3 q3 F3 g3 => ?_)
          cases b with
          | true => exact k h3 t3 q3 F3 ((g1.trans g2).trans g3)
          | false => exact wpAny_allTrue_Or_nil (k h3 t3 q3 F3 ((g1.trans g2).trans g3))
  | .not a p, b, s, e, C => by
    simp only [tv, Option.map_eq_some_iff] at e
    obtain ⟨c, hc, rfl⟩ := e
    intro ha ht k
    exact isTrue_not (tv_ok a hc C ha ht fun h1 t1 q1 F1 g1 => k h1 t1 q1 F1 g1)
  | .none _ _, b, s, e, C => by simp [tv] at e
  | .bool _ _ _, b, s, e, C => by simp [tv] at e
  | .int _ _ _, b, s, e, C => by simp [tv] at e
  | .str _ _ _, b, s, e, C => by simp [tv] at e
  | .neg _ _ _ _, b, s, e, C => by simp [tv] at e
  | .cel _ _, b, s, e, C => by simp [tv] at e
  | .glo _ _, b, s, e, C => by simp [tv] at e
  | .bin _ _ _ _, b, s, e, C => by simp [tv] at e
  | .ite _ _ _ _, b, s, e, C => by simp [tv] at e
  | .tup _ _ _, b, s, e, C => by simp [tv] at e
  | .lst _ _, b, s, e, C => by simp [tv] at e
  | .dctI _ _ _, b, s, e, C => by simp [tv] at e
  | .dctS _ _ _, b, s, e, C => by simp [tv] at e
  | .sub _ _ _, b, s, e, C => by simp [tv] at e
  | .slTo _ _ _ _, b, s, e, C => by simp [tv] at e
  | .slFr _ _ _ _, b, s, e, C => by simp [tv] at e
  | .len _ _ _, b, s, e, C => by simp [tv] at e
  | .list _ _ _, b, s, e, C => by simp [tv] at e
  | .meth _ _ _ _ _, b, s, e, C => by simp [tv] at e
  | .repl _ _ _ _ _ _ _ _ _, b, s, e, C => by simp [tv] at e
end
end
end Mine

namespace Mine
/-- a local: unbound; a value that never changes; a list or dict of the frame's own; a cell's value -/
inductive Sl where
  | un
  | fr (v : V)
  | ow (v : V)
  | cl (v : V)
noncomputable abbrev Sg := List Sl
inductive Dk where
  | i
  | s
  | l
inductive Tg where
  | nm (i : Nat) (p : Pos)
  | tp (l : List (Nat × Pos)) (k : Nat) (p : Pos)
mutual
inductive S where
  | asg (i : Nat) (e : E) (px p : Pos)
  | asgT (l : List (Nat × Pos)) (k : Nat) (tp : Pos) (e : E) (p : Pos)
  | asgX (l : List (Nat × Pos)) (k : Nat) (tp : Pos) (e : E) (p : Pos)
  | own1 (i : Nat) (d : Dk) (px pv p : Pos)
  | ownT (l : List (Nat × Dk × Pos × Pos)) (k1 : Nat) (p1 : Pos) (k2 : Nat) (p2 p : Pos)
  | setI (i : Nat) (ke ve : E) (pi ps p : Pos)
  | app (i : Nat) (e : E) (pi pa pc p : Pos)
  | pop (i : Nat) (pi pa pc p : Pos)
  | asgPop (j : Nat) (pj : Pos) (i : Nat) (pi pa pc p : Pos)
  | aug (i : Nat) (op : Operator) (e : E) (px p : Pos)
  | ifs (c : E) (a b : Ss) (p : Pos)
  | fr (t : Tg) (e : E) (body : Ss) (p : Pos)
  | frE (t : Tg) (e : E) (pf pc : Pos) (body : Ss) (p : Pos)
  | frR (t : Tg) (e : E) (pf pc : Pos) (body : Ss) (p : Pos)
  | whl (c : E) (body : Ss) (p : Pos)
  | ret (e : E) (p : Pos)
inductive Ss where
  | nil
  | cons (s : S) (l : Ss)
end
noncomputable def Dk.py (d : Dk) (p : Pos) : PE := match d with
  | .l => .List [] p
  | _ => .Dict [] [] p
noncomputable def Dk.v : Dk → V
  | .i => .dI [] []
  | .s => .dS [] []
  | .l => .lst []
noncomputable def Tg.py (N : Nm) : Tg → PE
  | .nm i p => .Name (N.l i) p
  | .tp l k p => .Tuple (l.map fun x => .Name (N.l x.1) x.2) k p
mutual
noncomputable def S.py (N : Nm) : S → PS
  | .asg i e px p => .Assign [.Name (N.l i) px] (e.py N) p
  | .asgT l k tp e p => .Assign [.Tuple (l.map fun x => .Name (N.l x.1) x.2) k tp] (e.py N) p
  | .asgX l k tp e p => .Assign [.Tuple (l.map fun x => .Name (N.l x.1) x.2) k tp] (e.py N) p
  | .own1 i d px pv p => .Assign [.Name (N.l i) px] (d.py pv) p
  | .ownT l k1 p1 k2 p2 p => .Assign [.Tuple (l.map fun x => .Name (N.l x.1) x.2.2.1) k1 p1] (.Tuple (l.map fun x => x.2.1.py x.2.2.2) k2 p2) p
  | .setI i ke ve pi ps p => .Assign [.Subscript (.Name (N.l i) pi) (ke.py N) ps] (ve.py N) p
  | .app i e pi pa pc p => .Expr (.Call (.Attribute (.Name (N.l i) pi) (Str.ofString "append") pa) [e.py N] [] pc) p
  | .pop i pi pa pc p => .Expr (.Call (.Attribute (.Name (N.l i) pi) (Str.ofString "pop") pa) [] [] pc) p
  | .asgPop j pj i pi pa pc p => .Assign [.Name (N.l j) pj] (.Call (.Attribute (.Name (N.l i) pi) (Str.ofString "pop") pa) [] [] pc) p
  | .aug i op e px p => .AugAssign (.Name (N.l i) px) op (e.py N) p
  | .ifs c a b p => .If (c.py N) (a.py N) (b.py N) p
  | .fr t e body p => .For (t.py N) (e.py N) (body.py N) [] p
  | .frE t e pf pc body p => .For (t.py N) (.Call (.Name (bName 2) pf) [e.py N] [] pc) (body.py N) [] p
  | .frR t e pf pc body p => .For (t.py N) (.Call (.Name (bName 3) pf) [e.py N] [] pc) (body.py N) [] p
  | .whl c body p => .While (c.py N) (body.py N) [] p
  | .ret e p => .Return (some (e.py N)) p
noncomputable def Ss.py (N : Nm) : Ss → List PS
  | .nil => []
  | .cons s l => s.py N :: l.py N
end

/-- how a body ends -/
inductive Oc where
  | nx (σ : Sg)
  | rt (v : V)
noncomputable def frz (σ : Sg) : List (Option V) := σ.map fun
  | .fr v => some v
  | .cl v => some v
  | _ => none
noncomputable def full (σ : Sg) : List (Option V) := σ.map fun
  | .fr v => some v
  | .cl v => some v
  | .ow v => some v
  | .un => none
noncomputable def evA (W : Wd) (σ : Sg) (e : E) : Option V := match ev W (frz σ) e with
  | some v => some v
  | none => match ev W (full σ) e with
    | some v => if flat v then some v else none
    | none => none
noncomputable def storeF (σ : Sg) (i : Nat) (v : V) : Option Sg := match σ[i]? with
  | none => none
  | some (.cl _) => none
  | some _ => some (σ.set i (.fr v))
noncomputable def storeO (σ : Sg) (i : Nat) (v : V) : Option Sg := match σ[i]? with
  | none => none
  | some (.cl _) => none
  | some _ => some (σ.set i (.ow v))
noncomputable def storeT : Sg → List Nat → List V → Option Sg
  | σ, [], [] => some σ
  | σ, i :: l, v :: vs => match storeF σ i v with
    | some σ => storeT σ l vs
    | none => none
  | _, _, _ => none
noncomputable def storeG (σ : Sg) (t : Tg) (v : V) : Option Sg := match t with
  | .nm i _ => storeF σ i v
  | .tp l _ _ => match v with
    | .tup xs => storeT σ (l.map (·.1)) xs
    | _ => none
noncomputable def owns : Sg → List (Nat × Dk) → Option Sg
  | σ, [] => some σ
  | σ, (i, d) :: l => match storeO σ i d.v with
    | some σ => owns σ l
    | none => none
noncomputable def getO (σ : Sg) (i : Nat) : Option V := match σ[i]? with
  | some (.ow v) => some v
  | _ => none
noncomputable def updI : List Int → List V → Int → V → List V
  | k :: ks, v :: vs, i, x => (if k = i then x else v) :: updI ks vs i x
  | _, _, _, _ => []
noncomputable def updS : List (List Nat) → List V → List Nat → V → List V
  | k :: ks, v :: vs, i, x => (if k = i then x else v) :: updS ks vs i x
  | _, _, _, _ => []
noncomputable def putI (ks : List Int) (vs : List V) (i : Int) (x : V) : List Int × List V := if i ∈ ks then (ks, updI ks vs i x) else (ks ++ [i], vs ++ [x])
noncomputable def putS (ks : List (List Nat)) (vs : List V) (i : List Nat) (x : V) : List (List Nat) × List V := if i ∈ ks then (ks, updS ks vs i x) else (ks ++ [i], vs ++ [x])
noncomputable def setV (o k x : V) : Option V := match o, k with
  | .dI ks vs, .int i => if ks.length ≤ big ∧ ks.length = vs.length then some (.dI (putI ks vs i x).1 (putI ks vs i x).2) else none
  | .dS ks vs, .str i => if ks.length ≤ big ∧ ks.length = vs.length then some (.dS (putS ks vs i x).1 (putS ks vs i x).2) else none
  | .lst l, .int i => if i = -1 ∧ 1 ≤ l.length ∧ l.length ≤ big then some (.lst (l.set (l.length - 1) x)) else none
  | _, _ => none
noncomputable def popV (o : V) : Option (V × V) := match o with
  | .lst l => if l.length ≤ big then match l[l.length - 1]? with
    | some x => some (x, .lst (l.take (l.length - 1)))
    | none => none
    else none
  | _ => none
noncomputable def appV (o x : V) : Option V := match o with
  | .lst l => if l.length ≤ big then some (.lst (l ++ [x])) else none
  | _ => none
noncomputable def setOw (σ : Sg) (i : Nat) (v : V) : Sg := σ.set i (.ow v)
/-- what a loop walks over -/
noncomputable def itV (v : V) : Option (List V) := match v with
  | .lst l => if l.length ≤ big then some l else none
  | .tup l => if l.length ≤ big then some l else none
  | .dI ks _ => if ks.length ≤ big then some (ks.map .int) else none
  | _ => none
noncomputable def numd : Nat → List V → List V
  | _, [] => []
  | k, v :: l => .tup [.int k, v] :: numd (k + 1) l
noncomputable def loopV (t : Tg) (body : Sg → Option Oc) : List V → Sg → Option Oc
  | [], σ => some (.nx σ)
  | v :: l, σ => match storeG σ t v with
    | none => none
    | some σ => match body σ with
      | some (.nx σ) => loopV t body l σ
      | some (.rt v) => some (.rt v)
      | none => none
noncomputable def loopW (c : Sg → Option Bool) (body : Sg → Option Oc) : Nat → Sg → Option Oc
  | 0, _ => none
  | n + 1, σ => match c σ with
    | some true => match body σ with
      | some (.nx σ) => loopW c body n σ
      | some (.rt v) => some (.rt v)
      | none => none
    | some false => some (.nx σ)
    | none => none
noncomputable def isD : V → Bool
  | .dI _ _ => true
  | _ => false
noncomputable def isTg2 : Tg → Bool
  | .tp _ _ _ => true
  | _ => false
mutual
noncomputable def ex (W : Wd) : S → Sg → Option Oc
  | .asg i e _ _, σ => match evA W σ e with
    | some v => (storeF σ i v).map .nx
    | none => none
  | .asgT l _ _ e _, σ => match evA W σ e with
    | some (.tup xs) => (storeT σ (l.map (·.1)) xs).map .nx
    | some (.lst xs) => (storeT σ (l.map (·.1)) xs).map .nx
    | _ => none
  | .asgX l _ _ e _, σ => match evA W σ e with
    | some (.tup xs) => (storeT σ (l.map (·.1)).reverse xs.reverse).map .nx
    | _ => none
  | .own1 i d _ _ _, σ => (owns σ [(i, d)]).map .nx
  | .ownT l _ _ _ _ _, σ => (owns σ (l.map fun x => (x.1, x.2.1)).reverse).map .nx
  | .setI i ke ve _ _ _, σ => match evA W σ ve with
    | some x => match getO σ i with
      | some o => match evA W σ ke with
        | some k => match setV o k x with
          | some o => some (.nx (setOw σ i o))
          | none => none
        | none => none
      | none => none
    | none => none
  | .app i e _ pa pc _, σ => if pa.endLine == pc.line then match getO σ i with
    | some o => match evA W σ e with
      | some x => match appV o x with
        | some o => some (.nx (setOw σ i o))
        | none => none
      | none => none
    | none => none
    else none
  | .pop i _ pa pc _, σ => if pa.endLine == pc.line then match getO σ i with
    | some o => match popV o with
      | some (x, o) => if flat x then some (.nx (setOw σ i o)) else none
      | none => none
    | none => none
    else none
  | .asgPop j _ i _ pa pc _, σ => if pa.endLine == pc.line then match getO σ i with
    | some o => match popV o with
      | some (x, o) => (storeF (setOw σ i o) j x).map .nx
      | none => none
    | none => none
    else none
  | .aug i op e _ _, σ => match locV (frz σ) i with
    | some (.int a) => match evA W σ e with
      | some (.int b) => match op with
        | .Add => (storeF σ i (.int (a + b))).map .nx
        | .Sub => (storeF σ i (.int (a - b))).map .nx
        | _ => none
      | _ => none
    | _ => none
  | .ifs c a b _, σ => match tv W (full σ) c with
    | some true => exs W a σ
    | some false => exs W b σ
    | none => none
  | .fr t e body _, σ => match evA W σ e with
    | some v => match itV v with
      | some l => if isD v && isTg2 t then none else loopV t (exs W body) l σ
      | none => none
    | none => none
  | .frE t e _ _ body _, σ => match evA W σ e with
    | some (.lst l) => if isTg2 t && W.b 2 then loopV t (exs W body) (numd 0 l) σ else none
    | _ => none
  | .frR t e _ _ body _, σ => match evA W σ e with
    | some (.int n) => if 0 ≤ n ∧ n ≤ 1000 ∧ W.b 3 = true ∧ isTg2 t = false then loopV t (exs W body) ((List.range n.toNat).map fun (k : Nat) => V.int (k : Int)) σ else none
    | _ => none
  | .whl c body _, σ => loopW (fun σ => tv W (full σ) c) (exs W body) 1000 σ
  | .ret e _, σ => (ev W (full σ) e).map .rt
noncomputable def exs (W : Wd) : Ss → Sg → Option Oc
  | .nil, σ => some (.nx σ)
  | .cons s l, σ => match ex W s σ with
    | some (.nx σ) => exs W l σ
    | some (.rt v) => some (.rt v)
    | none => none
end
end Mine

namespace Mine
/-- both kinds of addresses are kept out of values -/
noncomputable abbrev Xo (Y O : Ex) : Ex := fun a => Y a ∨ O a
noncomputable def OwnAt (prog : Program) (w : World) (X : Ex) (h : Heap) (a : Addr) : V → Prop
  | .lst l => ∃ xs, LstAt h a xs ∧ VRs prog w X h l xs
  | .dI ks vs => ∃ xs, h.DictOf (intKind prog w) a (ks.zip xs) ∧ ks.length = xs.length ∧ (a == sysModules) = false ∧ VRs prog w X h vs xs
  | .dS ks vs => ∃ xs, h.DictOf (strKind prog w) a ((ks.map mkS).zip xs) ∧ ks.length = xs.length ∧ (a == sysModules) = false ∧ VRs prog w X h vs xs
  | _ => False
section
variable {prog : Program} {w : World} {K : Frag} {n : Nat} {N : Nm} {W : Wd} {X X' Y O : Ex} {σ σ' : Sg} {α : Nat → Addr} {env : Env} {h₀ h h' : Heap} {m mg mb : Str → Option Value}
theorem OwnAt.mono {a : Addr} {v : V} (x : OwnAt prog w X h a v) (ka : ∀ o, h.get? a = some o → h'.get? a = some o) (hk : ∀ a o, ¬ X a → h.get? a = some o → h'.get? a = some o) (hY : ∀ a o, h.get? a = some o → X' a → X a) : OwnAt prog w X' h' a v := by
  cases v with
  | lst l => obtain ⟨xs, ⟨nn, ho⟩, hl⟩ := x; exact ⟨xs, ⟨nn, ka _ ho⟩, VRs.mono hk hY hl⟩
  | dI ks vs => 
    obtain ⟨xs, hd, b, c, hl⟩ := x
    obtain ⟨o, ho, r⟩ := Heap.dictOf_iff.mp hd
    exact ⟨xs, Heap.dictOf_iff.mpr ⟨o, ka _ ho, r⟩, b, c, VRs.mono hk hY hl⟩
  | dS ks vs => 
    obtain ⟨xs, hd, b, c, hl⟩ := x
    obtain ⟨o, ho, r⟩ := Heap.dictOf_iff.mp hd
    exact ⟨xs, Heap.dictOf_iff.mpr ⟨o, ka _ ho, r⟩, b, c, VRs.mono hk hY hl⟩
  | none => exact x
  | bool => exact x
  | int => exact x
  | str => exact x
  | tup => exact x
theorem OwnAt.vr {a : Addr} {v : V} (x : OwnAt prog w X h a v) (hX : ¬ X a) : VR prog w X h v (.ref a) := by
  cases v with
  | lst l => obtain ⟨xs, ho, hl⟩ := x; exact ⟨a, xs, rfl, hX, ho, hl⟩
  | dI ks vs => obtain ⟨xs, hd, b, c, hl⟩ := x; exact ⟨a, xs, rfl, hX, hd, b, c, hl⟩
  | dS ks vs => obtain ⟨xs, hd, b, c, hl⟩ := x; exact ⟨a, xs, rfl, hX, hd, b, c, hl⟩
  | none => exact x.elim
  | bool => exact x.elim
  | int => exact x.elim
  | str => exact x.elim
  | tup => exact x.elim
theorem OwnAt.at {a : Addr} {v : V} (x : OwnAt prog w X h a v) : ∃ o, h.get? a = some o := by
  cases v with
  | lst l => obtain ⟨xs, ⟨nn, ho⟩, hl⟩ := x; exact ⟨_, ho⟩
  | dI ks vs => obtain ⟨xs, hd, b, c, hl⟩ := x; obtain ⟨o, ho, r⟩ := Heap.dictOf_iff.mp hd; exact ⟨_, ho⟩
  | dS ks vs => obtain ⟨xs, hd, b, c, hl⟩ := x; obtain ⟨o, ho, r⟩ := Heap.dictOf_iff.mp hd; exact ⟨_, ho⟩
  | none => exact x.elim
  | bool => exact x.elim
  | int => exact x.elim
  | str => exact x.elim
  | tup => exact x.elim
theorem OwnAt.gl {L a : Addr} {v : V} (x : OwnAt prog w X h a v) (hL : X L) (ha : a ≠ L) (g : GL L h h') : OwnAt prog w X h' a v :=
  x.mono (fun o e => g a o ha e) (fun a o hx e => g a o (fun q => hx (q ▸ hL)) e) (fun _ _ _ y => y)

structure RS (prog : Program) (w : World) (K : Frag) (n : Nat) (N : Nm) (W : Wd) (mg mb : Str → Option Value) (Y O : Ex) (σ : Sg) (α : Nat → Addr) (env : Env) (h₀ : Heap) (m : Str → Option Value) (h : Heap) : Prop where
  cx : Cx prog w K n N W mg mb (Xo Y O) (frz σ) env h₀ m h
  ol : ∀ a, O a → ¬ Y a ∧ h₀.get? a = none
  yl : Y env.locals
  inj : ∀ i j u v, σ[i]? = some (.ow u) → σ[j]? = some (.ow v) → α i = α j → i = j
  ow : ∀ i v, σ[i]? = some (.ow v) → O (α i) ∧ m (N.l i) = some (.ref (α i)) ∧ OwnAt prog w (Xo Y O) h (α i) v
  kd : ∀ i s, σ[i]? = some s → (match s with
    | .cl _ => False
    | _ => True) → (N.l i == ("__debug__" : Str)) = false ∧ env.kindOf (N.l i) = some .local
  nj : ∀ i j, i < σ.length → j < σ.length → N.l i = N.l j → i = j

theorem frz_get {i : Nat} {v : V} : locV (frz σ) i = some v ↔ σ[i]? = some (.fr v) ∨ σ[i]? = some (.cl v) := by
  unfold locV frz
  rw [List.getElem?_map]
  cases σ[i]? with
  | none => simp
  | some s => cases s <;> simp
theorem full_get {i : Nat} {v : V} : locV (full σ) i = some v ↔ σ[i]? = some (.fr v) ∨ σ[i]? = some (.cl v) ∨ σ[i]? = some (.ow v) := by
  unfold locV full
  rw [List.getElem?_map]
  cases σ[i]? with
  | none => simp
  | some s => cases s <;> simp
theorem RS.ne (R : RS prog w K n N W mg mb Y O σ α env h₀ m h) {a : Addr} (ha : O a) : a ≠ env.locals := fun q => (R.ol a ha).1 (q ▸ R.yl)
theorem VR.toY {v : V} {x : Value} (hv : VR prog w (Xo Y O) h v x) : VR prog w Y h v x := hv.mono (fun _ _ _ e => e) fun _ _ _ y => .inl y
theorem VRs.toY {v : List V} {x : List Value} (hv : VRs prog w (Xo Y O) h v x) : VRs prog w Y h v x := hv.mono (fun _ _ _ e => e) fun _ _ _ y => .inl y
theorem RS.full (R : RS prog w K n N W mg mb Y O σ α env h₀ m h) : Cx prog w K n N W mg mb Y (full σ) env h₀ m h where
  st := ⟨R.cx.st.b, R.yl, fun a ha => R.cx.st.xd a (.inl ha), R.cx.st.f, fun a o e y => R.cx.st.xk a o e (.inl y)⟩
  eg := R.cx.eg
  eb := R.cx.eb
  ek := R.cx.ek
  fn := R.cx.fn
  blt := R.cx.blt
  glo := fun i v e => by
    obtain ⟨a, b, val, hm, hv⟩ := R.cx.glo i v e
    exact ⟨a, b, val, hm, hv.toY⟩
  loc := fun i v e => by
    have old : locV (frz σ) i = some v → (N.l i == ("__debug__" : Str)) = false ∧ ((env.kindOf (N.l i) = some .local ∧ ∃ val, m (N.l i) = some val ∧ VR prog w Y h v val) ∨
        (env.kindOf (N.l i) = some .cell ∧ ∃ c val, env.cells.lookup (N.l i) = some c ∧ ¬ Y c ∧ h.IsCell c (some val) ∧ VR prog w Y h v val)) := fun e => by
      obtain ⟨a, b⟩ := R.cx.loc i v e
      exact ⟨a, b.elim (fun ⟨k, val, hm, hv⟩ => .inl ⟨k, val, hm, hv.toY⟩) fun ⟨k, c, val, hc, hX, hcell, hv⟩ => .inr ⟨k, c, val, hc, fun y => hX (.inl y), hcell, hv.toY⟩⟩
    rcases full_get.mp e with e | e | e
    · exact old (frz_get.mpr (.inl e))
    · exact old (frz_get.mpr (.inr e))
    · obtain ⟨a, b⟩ := R.kd i _ e trivial
      obtain ⟨c, d, f⟩ := R.ow i v e
      refine ⟨a, .inl ⟨b, _, d, ?_⟩⟩
      exact OwnAt.vr (X := Y) (f.mono (fun _ e => e) (fun _ _ _ e => e) fun _ _ _ y => .inl y) (R.ol _ c).1
theorem RS.gl (R : RS prog w K n N W mg mb Y O σ α env h₀ m h) (F : Fr h₀ env.locals h' m) (g : GL env.locals h h') : RS prog w K n N W mg mb Y O σ α env h₀ m h' where
  cx := R.cx.gl F g
  ol := R.ol
  yl := R.yl
  inj := R.inj
  ow := fun i v e => by
    obtain ⟨a, b, c⟩ := R.ow i v e
    exact ⟨a, b, c.gl (.inl R.yl) (R.ne a) g⟩
  kd := R.kd
  nj := R.nj
theorem RS.lt {i : Nat} {s : Sl} (e : σ[i]? = some s) : i < σ.length := by
  rw [List.getElem?_eq_some_iff] at e
  exact e.1

/-- an expression of a statement -/
theorem evA_ok {e : E} {v : V} {s : Shared} (R : RS prog w K n N W mg mb Y O σ α env h₀ m s.heap) (he : evA W σ e = some v) : WPT prog w n (Xo Y O) h₀ env.locals m s (eval (e.py N) env) v := by
  unfold evA at he
  split at he
  · rename_i u hu
    cases he
    exact ev_ok e hu R.cx
  · split at he <;> try (cases he; done)
    rename_i u hu
    split at he <;> cases he
    rename_i hf
    intro A Q E ha ht k
    refine ev_ok e hu R.full ha ht fun val h' tk t F g hv => k val h' tk t F g ?_
    cases v <;> first | exact hv | (simp [flat] at hf)

/-- what a statement leaves -/
structure Gr (L : Addr) (O : Ex) (h : Heap) (O' : Ex) (h' : Heap) : Prop where
  up : ∀ a, O a → O' a
  new : ∀ a, O' a → O a ∨ h.get? a = none
  keep : ∀ b o, h.get? b = some o → b ≠ L → ¬ O b → h'.get? b = some o
  dom : ∀ b o, h.get? b = some o → ∃ o', h'.get? b = some o'
theorem Gr.trans {L : Addr} {O O' O'' : Ex} {h h' h'' : Heap} (x : Gr L O h O' h') (y : Gr L O' h' O'' h'') : Gr L O h O'' h'' where
  up := fun a e => y.up a (x.up a e)
  new := fun a e => by
    rcases y.new a e with e | e
    · exact x.new a e
    · refine .inr ?_
      cases q : h.get? a with
      | none => rfl
      | some o => 
        obtain ⟨o', q'⟩ := x.dom a o q
        rw [q'] at e; cases e
  keep := fun b o e hb hO => y.keep b o (x.keep b o e hb hO) hb fun q => by
    rcases x.new b q with q | q
    · exact hO q
    · rw [q] at e; cases e
  dom := fun b o e => by
    obtain ⟨o', e'⟩ := x.dom b o e
    exact y.dom b o' e'
theorem Gr.of_gl {L : Addr} {O : Ex} {h h' : Heap} (g : GL L h h') (hL : ∃ o, h'.get? L = some o) : Gr L O h O h' where
  up := fun _ e => e
  new := fun _ e => .inl e
  keep := fun b o e hb _ => g b o hb e
  dom := fun b o e => by
    by_cases q : b = L
    · exact q ▸ hL
    · exact ⟨o, g b o q e⟩
theorem Gr.refl {L : Addr} {O : Ex} {h : Heap} : Gr L O h O h := ⟨fun _ e => e, fun _ e => .inl e, fun _ _ e _ _ => e, fun _ o e => ⟨o, e⟩⟩

/-- a value is put into a local -/
theorem store_ok {i : Nat} {v : V} {val : Value} {s : Shared} {A : Around} {Q : Unit → Shared → Prop} {E : Value → Shared → Prop} (R : RS prog w K n N W mg mb Y O σ α env h₀ m s.heap) (hs : storeF σ i v = some σ') (hv : VR prog w (Xo Y O) s.heap v val)
    (k : ∀ h' m', RS prog w K n N W mg mb Y O σ' α env h₀ m' h' → GL env.locals s.heap h' → Q () { s with heap := h', toks := s.toks + 1 }) : wpAny (model prog w) A (storeName env (N.l i) val) Q E s := by
  have key : ∃ s₀, σ[i]? = some s₀ ∧ (match s₀ with
    | .cl _ => False
    | _ => True) ∧ σ' = σ.set i (.fr v) := by
    unfold storeF at hs
    split at hs
    · cases hs
    · cases hs
    · rename_i s₀ h1 h2
      cases hs
      refine ⟨_, h2, ?_, rfl⟩
      cases s₀ <;> first | exact trivial | exact (h1 _ rfl).elim
  obtain ⟨s₀, hi, hc, rfl⟩ := key
  obtain ⟨hd, hl⟩ := R.kd i s₀ hi hc
  have hlt := RS.lt hi
  refine wpAny_storeName_local hl R.cx.st.f.ns (fun h' hn sb => k h' (fun x => if x = N.l i then some val else m x) ?_ fun b o hb e => (sb.2 b hb).trans e) ?_
  · have g : GL env.locals s.heap h' := fun b o hb e => (sb.2 b hb).trans e
    have F' := R.cx.st.f.set hn sb
    have mne : ∀ j, j < σ.length → j ≠ i → (if N.l j = N.l i then some val else m (N.l j)) = m (N.l j) := fun j hj hji => if_neg fun q => hji (R.nj j i hj hlt q)
    refine { cx := { st := R.cx.st.gl' F' g, eg := R.cx.eg, eb := R.cx.eb, ek := R.cx.ek, fn := R.cx.fn, blt := R.cx.blt, glo := ?_, loc := ?_ }, ol := R.ol, yl := R.yl, inj := ?_, ow := ?_, kd := ?_, nj := ?_ }
    · intro j u e
      rw [frz_get] at e
      by_cases q : j = i
      · subst q
        have e1 : (σ.set j (.fr v))[j]? = some (.fr v) := by simp [hlt]
        rw [e1] at e
        have : u = v := by rcases e with e | e <;> cases e; rfl
        subst this
        exact ⟨hd, .inl ⟨hl, val, if_pos rfl, hv.gl (.inl R.yl) g⟩⟩
      · rw [List.getElem?_set_ne (Ne.symm q)] at e
        obtain ⟨a, b⟩ := (R.cx.gl_loc g) j u (frz_get.mpr e)
        have hj : j < σ.length := by rcases e with e | e <;> exact RS.lt e
        refine ⟨a, b.elim (fun ⟨x, y, z, t⟩ => .inl ⟨x, y, (mne j hj q).trans z, t⟩) .inr⟩
    · intro j u e
      obtain ⟨a, b, c, d, f⟩ := R.cx.glo j u e
      exact ⟨a, b, c, d, f.gl (.inl R.yl) g⟩
    · intro a b u u' e1 e2 e3
      by_cases q1 : a = i
      · subst q1; simp [hlt] at e1
      by_cases q2 : b = i
      · subst q2; simp [hlt] at e2
      rw [List.getElem?_set_ne (Ne.symm q1)] at e1
      rw [List.getElem?_set_ne (Ne.symm q2)] at e2
      exact R.inj a b u u' e1 e2 e3
    · intro j u e
      by_cases q : j = i
      · subst q; simp [hlt] at e
      rw [List.getElem?_set_ne (Ne.symm q)] at e
      obtain ⟨a, b, c⟩ := R.ow j u e
      exact ⟨a, (mne j (RS.lt e) q).trans b, c.gl (.inl R.yl) (R.ne a) g⟩
    · intro j u e hu
      by_cases q : j = i
      · subst q; exact ⟨hd, hl⟩
      rw [List.getElem?_set_ne (Ne.symm q)] at e
      exact R.kd j u e hu
    · simpa using R.nj
  · rw [R.cx.ek]; rfl
end
end Mine

namespace Mine
section
variable {prog : Program} {w : World} {K : Frag} {n : Nat} {N : Nm} {W : Wd} {X X' Y O O' : Ex} {σ σ' : Sg} {α : Nat → Addr} {env : Env} {h₀ h h' : Heap} {m m' mg mb : Str → Option Value}
theorem RS.fr (R : RS prog w K n N W mg mb Y O σ α env h₀ m h) : Fr h₀ env.locals h m := R.cx.st.f
theorem RS.gr (R : RS prog w K n N W mg mb Y O σ α env h₀ m h) (F : Fr h₀ env.locals h' m') (g : GL env.locals h h') : Gr env.locals O h O h' := Gr.of_gl g (Fr.at F)
theorem Cx.keepX (C : Cx prog w K n N W mg mb X r env h₀ m h) (hk : ∀ b o, ¬ X b → h.get? b = some o → h'.get? b = some o) (hY : ∀ a o, h.get? a = some o → X' a → X a) (xl : X' env.locals) (xd : XD X' h') (F : Fr h₀ env.locals h' m) : Cx prog w K n N W mg mb X' r env h₀ m h' where
  st := ⟨C.st.b, xl, xd, F, fun a o e y => C.st.xk a o e (hY a o (C.st.hb.k a o e) y)⟩
  eg := C.eg
  eb := C.eb
  ek := C.ek
  fn := C.fn
  blt := C.blt
  glo := fun i v e => by
    obtain ⟨a, b, val, hm, hv⟩ := C.glo i v e
    exact ⟨a, b, val, hm, hv.mono hk hY⟩
  loc := fun i v e => by
    obtain ⟨a, b⟩ := C.loc i v e
    refine ⟨a, b.elim (fun ⟨k, val, hm, hv⟩ => .inl ⟨k, val, hm, hv.mono hk hY⟩) fun ⟨k, c, val, hc, hX, ⟨o, ho, hd⟩, hv⟩ => .inr ⟨k, c, val, hc, fun y => hX (hY c o ho y), ⟨o, hk c o hX ho, hd⟩, hv.mono hk hY⟩⟩
/-- new addresses of the frame's own -/
theorem RS.grow (R : RS prog w K n N W mg mb Y O σ α env h₀ m h) (hk : Sub h h') (up : ∀ a, O a → O' a) (new : ∀ a, O' a → O a ∨ h.get? a = none) (dom : ∀ a, O' a → ∃ o, h'.get? a = some o) (F : Fr h₀ env.locals h' m) : RS prog w K n N W mg mb Y O' σ α env h₀ m h' := by
  have hY : ∀ a o, h.get? a = some o → Xo Y O' a → Xo Y O a := fun a o e y => y.elim .inl fun y => (new a y).elim .inr fun q => by rw [q] at e; cases e
  refine { cx := R.cx.keepX (fun b o _ e => hk b o e) hY (.inl R.yl) (fun a y => y.elim (fun y => ?_) (dom a)) F, ol := fun a y => ?_, yl := R.yl, inj := R.inj, ow := fun i v e => ?_, kd := R.kd, nj := R.nj }
  · obtain ⟨o, ho⟩ := R.cx.st.xd a (.inl y)
    exact ⟨o, hk a o ho⟩
  · rcases new a y with y | y
    · exact R.ol a y
    · refine ⟨fun q => ?_, ?_⟩
      · obtain ⟨o, ho⟩ := R.cx.st.xd a (.inl q)
        rw [ho] at y; cases y
      · cases q : h₀.get? a with
        | none => rfl
        | some o => rw [R.fr.keep a o q] at y; cases y
  · obtain ⟨a, b, c⟩ := R.ow i v e
    exact ⟨up _ a, b, c.mono (fun o => hk _ o) (fun a o _ => hk a o) hY⟩
/-- one of the frame's own is changed -/
theorem RS.mut {i : Nat} {v v' : V} (R : RS prog w K n N W mg mb Y O σ α env h₀ m h) (hi : σ[i]? = some (.ow v)) (sb : Heap.SameBut (α i) h h') (hv : OwnAt prog w (Xo Y O) h' (α i) v') : RS prog w K n N W mg mb Y O (σ.set i (.ow v')) α env h₀ m h' ∧ Gr env.locals O h O h' := by
  obtain ⟨hO, hm, _⟩ := R.ow i v hi
  have hlt := RS.lt hi
  have hk : ∀ b o, b ≠ α i → h.get? b = some o → h'.get? b = some o := fun b o hb e => (sb.2 b hb).trans e
  have hkX : ∀ b o, ¬ Xo Y O b → h.get? b = some o → h'.get? b = some o := fun b o hb e => hk b o (fun q => hb (.inr (q ▸ hO))) e
  have F' : Fr h₀ env.locals h' m := R.fr.change sb (R.ne hO) (R.ol _ hO).2
  have dom : ∀ b o, h.get? b = some o → ∃ o', h'.get? b = some o' := fun b o e => by
    by_cases q : b = α i
    · exact q ▸ hv.at
    · exact ⟨o, hk b o q e⟩
  have xd : XD (Xo Y O) h' := fun a ha => by
    obtain ⟨o, ho⟩ := R.cx.st.xd a ha
    exact dom a o ho
  have fe : frz (σ.set i (.ow v')) = frz σ := by
    apply List.ext_getElem?
    intro j
    unfold frz
    rw [List.getElem?_map, List.getElem?_map]
    by_cases q : j = i
    · subst q
      rw [hi]; simp [hlt]
    · rw [List.getElem?_set_ne (Ne.symm q)]
  have back : ∀ (j : Nat) (u : V), (List.set σ i (Sl.ow v'))[j]? = some (Sl.ow u) → ∃ u' : V, σ[j]? = some (Sl.ow u') := fun j u e => by
    by_cases q : j = i
    · subst q; exact ⟨_, hi⟩
    · rw [List.getElem?_set_ne (Ne.symm q)] at e; exact ⟨_, e⟩
  refine ⟨{ cx := ?_, ol := R.ol, yl := R.yl, inj := fun a b u u' e1 e2 e3 => ?_, ow := fun j u e => ?_, kd := fun j u e hu => ?_, nj := by simpa using R.nj }, ⟨fun _ e => e, fun _ e => .inl e, fun b o e _ hb => hk b o (fun q => hb (q ▸ hO)) e, dom⟩⟩
  · rw [fe]
    exact R.cx.keepX hkX (fun _ _ _ y => y) (.inl R.yl) xd F'
  · obtain ⟨x, e1⟩ := back a u e1
    obtain ⟨y, e2⟩ := back b u' e2
    exact R.inj a b x y e1 e2 e3
  · by_cases q : j = i
    · subst q
      simp [hlt] at e
      subst e
      exact ⟨hO, hm, hv⟩
    · rw [List.getElem?_set_ne (Ne.symm q)] at e
      obtain ⟨a, b, c⟩ := R.ow j u e
      exact ⟨a, b, c.mono (fun o e' => hk _ o (fun z => q (R.inj j i u v e hi z)) e') hkX fun _ _ _ y => y⟩
  · by_cases q : j = i
    · subst q; exact R.kd _ _ hi trivial
    · rw [List.getElem?_set_ne (Ne.symm q)] at e
      exact R.kd j u e hu

/-- a new list or dict of the frame's own is put into a local -/
theorem storeO_ok {i : Nat} {v : V} {a : Addr} {s : Shared} {A : Around} {Q : Unit → Shared → Prop} {E : Value → Shared → Prop} (R : RS prog w K n N W mg mb Y O σ α env h₀ m s.heap) (hs : storeO σ i v = some σ') (hO : O a) (hv : OwnAt prog w (Xo Y O) s.heap a v)
    (hne : ∀ j u, σ[j]? = some (.ow u) → α j ≠ a)
    (k : ∀ h' m', RS prog w K n N W mg mb Y O σ' (fun j => if j = i then a else α j) env h₀ m' h' → (∀ j u, σ'[j]? = some (.ow u) → j ≠ i → ∃ u', σ[j]? = some (.ow u')) → GL env.locals s.heap h' → Q () { s with heap := h', toks := s.toks + 1 }) : wpAny (model prog w) A (storeName env (N.l i) (.ref a)) Q E s := by
  have key : ∃ s₀, σ[i]? = some s₀ ∧ (match s₀ with
    | .cl _ => False
    | _ => True) ∧ σ' = σ.set i (.ow v) := by
    unfold storeO at hs
    split at hs
    · cases hs
    · cases hs
    · rename_i s₀ h1 h2
      cases hs
      refine ⟨_, h2, ?_, rfl⟩
      cases s₀ <;> first | exact trivial | exact (h1 _ rfl).elim
  obtain ⟨s₀, hi, hc, rfl⟩ := key
  obtain ⟨hd, hl⟩ := R.kd i s₀ hi hc
  have hlt := RS.lt hi
  refine wpAny_storeName_local hl R.fr.ns (fun h' hn sb => k h' (fun x => if x = N.l i then some (.ref a) else m x) ?_ (fun j u e q => ⟨u, by rwa [List.getElem?_set_ne (Ne.symm q)] at e⟩) fun b o hb e => (sb.2 b hb).trans e) ?_
  · have g : GL env.locals s.heap h' := fun b o hb e => (sb.2 b hb).trans e
    have F' := R.fr.set hn sb
    have mne : ∀ j, j < σ.length → j ≠ i → (if N.l j = N.l i then some (Value.ref a) else m (N.l j)) = m (N.l j) := fun j hj hji => if_neg fun q => hji (R.nj j i hj hlt q)
    refine { cx := { st := R.cx.st.gl' F' g, eg := R.cx.eg, eb := R.cx.eb, ek := R.cx.ek, fn := R.cx.fn, blt := R.cx.blt, glo := ?_, loc := ?_ }, ol := R.ol, yl := R.yl, inj := ?_, ow := ?_, kd := ?_, nj := ?_ }
    · intro j u e
      rw [frz_get] at e
      by_cases q : j = i
      · subst q
        have e1 : (σ.set j (.ow v))[j]? = some (.ow v) := by simp [hlt]
        rw [e1] at e
        rcases e with e | e <;> cases e
      · rw [List.getElem?_set_ne (Ne.symm q)] at e
        obtain ⟨a, b⟩ := (R.cx.gl_loc g) j u (frz_get.mpr e)
        have hj : j < σ.length := by rcases e with e | e <;> exact RS.lt e
        refine ⟨a, b.elim (fun ⟨x, y, z, t⟩ => .inl ⟨x, y, (mne j hj q).trans z, t⟩) .inr⟩
    · intro j u e
      obtain ⟨a, b, c, d, f⟩ := R.cx.glo j u e
      exact ⟨a, b, c, d, f.gl (.inl R.yl) g⟩
    · intro x y u u' e1 e2 e3
      by_cases q1 : x = i
      · by_cases q2 : y = i
        · exact q1.trans q2.symm
        · rw [List.getElem?_set_ne (Ne.symm q2)] at e2
          simp only [q1, if_true, if_neg q2] at e3
          exact (hne y u' e2 e3.symm).elim
      · rw [List.getElem?_set_ne (Ne.symm q1)] at e1
        by_cases q2 : y = i
        · simp only [q2, if_true, if_neg q1] at e3
          exact (hne x u e1 e3).elim
        · rw [List.getElem?_set_ne (Ne.symm q2)] at e2
          simp only [if_neg q1, if_neg q2] at e3
          exact R.inj x y u u' e1 e2 e3
    · intro j u e
      by_cases q : j = i
      · subst q
        simp [hlt] at e
        subst e
        simp only [if_true]
        exact ⟨hO, trivial, hv.gl (.inl R.yl) (R.ne hO) g⟩
      rw [List.getElem?_set_ne (Ne.symm q)] at e
      obtain ⟨a, b, c⟩ := R.ow j u e
      simp only [if_neg q]
      exact ⟨a, (mne j (RS.lt e) q).trans b, c.gl (.inl R.yl) (R.ne a) g⟩
    · intro j u e hu
      by_cases q : j = i
      · subst q; exact ⟨hd, hl⟩
      rw [List.getElem?_set_ne (Ne.symm q)] at e
      exact R.kd j u e hu
    · simpa using R.nj
  · rw [R.cx.ek]; rfl

/-- several values are put into several locals -/
theorem assigns_ok : ∀ (fs : List (Nat × (Value → Sem Unit))) (vs : List V) (vals : List Value) {σ σ' : Sg} {m : Str → Option Value} {s : Shared} {A : Around} {Q : Unit → Shared → Prop} {E : Value → Shared → Prop},
    (∀ p ∈ fs, ∀ (val : Value) (s : Shared) (Q : Unit → Shared → Prop), wpAny (model prog w) A (storeName env (N.l p.1) val) Q E s → wpAny (model prog w) A (p.2 val) Q E s) →
    RS prog w K n N W mg mb Y O σ α env h₀ m s.heap → storeT σ (fs.map (·.1)) vs = some σ' → VRs prog w (Xo Y O) s.heap vs vals →
    (∀ h' m' tk, s.toks ≤ tk → RS prog w K n N W mg mb Y O σ' α env h₀ m' h' → GL env.locals s.heap h' → Q () { s with heap := h', toks := tk }) → wpAny (model prog w) A (assignInOrder (fs.map (·.2)) vals) Q E s
  | [], [], vals, _, _, m, s, A, Q, E, _, R, e, hv, k => by
    cases e
    exact assignInOrder_nil (k s.heap m s.toks (Nat.le_refl _) R (GL.refl _))
  | [], _ :: _, vals, _, _, _, s, A, Q, E, _, R, e, hv, k => by cases e
  | _ :: _, [], vals, _, _, _, s, A, Q, E, _, R, e, hv, k => by cases e
  | f :: fs, v :: vs, vals, _, _, _, s, A, Q, E, hf, R, e, ⟨x, r, he, h1, h2⟩, k => by
    subst he
    simp only [List.map_cons, storeT] at e
    split at e <;> try (cases e; done)
    rename_i σ1 h3
    refine assignInOrder_cons (hf f (List.mem_cons_self ..) _ _ _ (store_ok R h3 h1 fun h' m' R' g => ?_))
    refine assigns_ok fs vs r (fun p hp => hf p (List.mem_cons_of_mem _ hp)) R' e (h2.gl (.inl R.yl) g) fun h2 m2 tk ht R2 g2 => ?_
    exact k h2 m2 tk (by have : s.toks + 1 ≤ tk := ht; omega) R2 (g.trans g2)
theorem owns_ok : ∀ (fs : List (Nat × Dk × (Value → Sem Unit))) (as : List Addr) {σ σ' : Sg} {α : Nat → Addr} {m : Str → Option Value} {s : Shared} {A : Around} {Q : Unit → Shared → Prop} {E : Value → Shared → Prop},
    (∀ p ∈ fs, ∀ (val : Value) (s : Shared) (Q : Unit → Shared → Prop), wpAny (model prog w) A (storeName env (N.l p.1) val) Q E s → wpAny (model prog w) A (p.2.2 val) Q E s) →
    RS prog w K n N W mg mb Y O σ α env h₀ m s.heap → owns σ (fs.map fun p => (p.1, p.2.1)) = some σ' → as.length = fs.length → as.Nodup → (∀ q ∈ (fs.map (·.2.1)).zip as, O q.2 ∧ OwnAt prog w (Xo Y O) s.heap q.2 q.1.v) → (∀ a ∈ as, ∀ j u, σ[j]? = some (.ow u) → α j ≠ a) →
    (∀ h' m' α' tk, s.toks ≤ tk → RS prog w K n N W mg mb Y O σ' α' env h₀ m' h' → GL env.locals s.heap h' → Q () { s with heap := h', toks := tk }) → wpAny (model prog w) A (assignInOrder (fs.map (·.2.2)) (as.map .ref)) Q E s
  | [], as, _, _, α, m, s, A, Q, E, _, R, e, hl, hn, ha, hf, k => by
    cases e
    exact assignInOrder_nil (k s.heap m α s.toks (Nat.le_refl _) R (GL.refl _))
  | f :: fs, [], _, _, _, _, s, A, Q, E, _, R, e, hl, hn, ha, hf, k => by simp at hl
  | f :: fs, a :: as, _, _, _, _, s, A, Q, E, hs, R, e, hl, hn, ha, hf, k => by
    simp only [List.map_cons, owns] at e
    split at e <;> try (cases e; done)
    rename_i σ1 h3
    have hn' := List.nodup_cons.mp hn
    obtain ⟨hO, hv⟩ := ha (f.2.1, a) (List.mem_cons_self ..)
    refine assignInOrder_cons (hs f (List.mem_cons_self ..) _ _ _ (storeO_ok R h3 hO hv (hf a (List.mem_cons_self ..)) fun h' m' R' old g => ?_))
    refine owns_ok fs as (fun p hp => hs p (List.mem_cons_of_mem _ hp)) R' e (by simpa using hl) hn'.2 (fun q hq => ?_) (fun b hb j u hj => ?_) fun h2 m2 α2 tk ht R2 g2 => ?_
    · obtain ⟨x, y⟩ := ha q (List.mem_cons_of_mem _ hq)
      exact ⟨x, y.gl (.inl R.yl) (R.ne x) g⟩
    · by_cases q : j = f.1
      · simp only [q, if_true]
        exact fun z => hn'.1 (z ▸ hb)
      · simp only [if_neg q]
        obtain ⟨u', hu⟩ := old j u hj q
        exact hf b (List.mem_cons_of_mem _ hb) j u' hu
    · exact k h2 m2 α2 tk (by have : s.toks + 1 ≤ tk := ht; omega) R2 (g.trans g2)
end
end Mine

namespace Mine
/-- what a statement (or a body) ends in -/
noncomputable def OutOK (prog : Program) (w : World) (K : Frag) (n : Nat) (N : Nm) (W : Wd) (mg mb : Str → Option Value) (Y O : Ex) (env : Env) (h₀ h : Heap) (oc : Oc) (fl : Flow) (h' : Heap) : Prop := match oc with
  | .nx σ' => fl = .next ∧ ∃ O' α' m', Gr env.locals O h O' h' ∧ RS prog w K n N W mg mb Y O' σ' α' env h₀ m' h'
  | .rt v => ∃ val m', fl = .ret val ∧ Fr h₀ env.locals h' m' ∧ VR prog w Y h' v val
noncomputable abbrev SOK (prog : Program) (w : World) (K : Frag) (n : Nat) (N : Nm) (W : Wd) (mg mb : Str → Option Value) (Y O : Ex) (env : Env) (h₀ : Heap) (s : Shared) (t : Sem Flow) (oc : Oc) : Prop :=
  ∀ {A : Around} {Q : Flow → Shared → Prop} {E : Value → Shared → Prop}, AOK n A → 1 ≤ s.toks → (∀ fl h' tk, 1 ≤ tk → OutOK prog w K n N W mg mb Y O env h₀ s.heap oc fl h' → Q fl { s with heap := h', toks := tk }) → wpAny (model prog w) A t Q E s
section
variable {prog : Program} {w : World} {K : Frag} {n : Nat} {N : Nm} {W : Wd} {X X' Y O O' : Ex} {σ σ' : Sg} {α : Nat → Addr} {env : Env} {h₀ h h' : Heap} {m m' mg mb : Str → Option Value} {s : Shared}
theorem RS.pushO (R : RS prog w K n N W mg mb Y O σ α env h₀ m h) (o : Obj) (hf : o.isFreed = false) : RS prog w K n N W mg mb Y (fun a => O a ∨ a = h.objs.size) σ α env h₀ m (h.push o) ∧ h.get? h.objs.size = none ∧ (h.push o).get? h.objs.size = some o := by
  have no : h.get? h.objs.size = none := by
    cases q : h.get? h.objs.size with
    | none => rfl
    | some o => exact absurd (Heap.lt_size q) (Nat.lt_irrefl _)
  have hs : Sub h (h.push o) := fun b o' e => Heap.get?_push_of_some _ e
  refine ⟨R.grow hs (fun _ y => .inl y) (fun a y => y.elim .inl fun q => .inr (q ▸ no)) (fun a y => y.elim (fun y => ?_) fun q => ⟨o, q ▸ Heap.get?_push_size _ hf⟩) (R.fr.push _), no, Heap.get?_push_size _ hf⟩
  obtain ⟨o', ho⟩ := R.cx.st.xd a (.inr y)
  exact ⟨o', hs a o' ho⟩
theorem alloc_ok (d : Dk) {p : Pos} {A : Around} {Q : Value → Shared → Prop} {E : Value → Shared → Prop} (R : RS prog w K n N W mg mb Y O σ α env h₀ m s.heap)
    (k : ∀ h', RS prog w K n N W mg mb Y (fun a => O a ∨ a = s.heap.objs.size) σ α env h₀ m h' → Sub s.heap h' → s.heap.get? s.heap.objs.size = none → OwnAt prog w (Xo Y (fun a => O a ∨ a = s.heap.objs.size)) h' s.heap.objs.size d.v → Q (.ref s.heap.objs.size) { s with heap := h' }) :
    wpAny (model prog w) A (eval (d.py p) env) Q E s := by
  have nm : (s.heap.objs.size == sysModules) = false := R.fr.notModules (modules_low R.cx.st.b.lim)
  have hs : ∀ o, Sub s.heap (s.heap.push o) := fun o b o' e => Heap.get?_push_of_some _ e
  cases d with
  | i =>
    obtain ⟨R', no, at'⟩ := R.pushO { cls := .type "dict", data := .dict #[] } rfl
    exact wpAny_Dict_empty (k _ R' (hs _) no ⟨[], Heap.DictOf.new _, rfl, nm, rfl⟩)
  | s =>
    obtain ⟨R', no, at'⟩ := R.pushO { cls := .type "dict", data := .dict #[] } rfl
    exact wpAny_Dict_empty (k _ R' (hs _) no ⟨[], Heap.DictOf.new _, rfl, nm, rfl⟩)
  | l =>
    obtain ⟨R', no, at'⟩ := R.pushO { cls := .type "list", data := .seq (List.toArray []) } rfl
    refine PyProof.Rows.List_ ?_
    show wpAny _ _ (spliced []) _ _ _
    exact spliced_nil (wpAny_newList (k _ R' (hs _) no ⟨[], ⟨_, at'⟩, rfl⟩))
theorem OwnAt.grow {O' : Ex} {a : Addr} {v : V} (x : OwnAt prog w (Xo Y O) h a v) (hk : Sub h h') (new : ∀ a, O' a → O a ∨ h.get? a = none) : OwnAt prog w (Xo Y O') h' a v :=
  x.mono (fun o => hk a o) (fun a o _ => hk a o) fun a o e y => y.elim .inl fun y => (new a y).elim .inr fun q => by rw [q] at e; cases e
theorem allocs_ok : ∀ (l : List (Dk × Pos)) {O : Ex} {m : Str → Option Value} {s : Shared} {A : Around} {Q : List Value → Shared → Prop} {E : Value → Shared → Prop}, RS prog w K n N W mg mb Y O σ α env h₀ m s.heap →
    (∀ O' h' as, RS prog w K n N W mg mb Y O' σ α env h₀ m h' → Sub s.heap h' → (∀ a, O a → O' a) → (∀ a, O' a → O a ∨ s.heap.get? a = none) → as.length = l.length → as.Nodup → (∀ q ∈ (l.map (·.1)).zip as, O' q.2 ∧ OwnAt prog w (Xo Y O') h' q.2 q.1.v) → (∀ a ∈ as, s.heap.get? a = none) →
      Q (as.map .ref) { s with heap := h' }) → wpAny (model prog w) A (spliced (l.map fun x => (false, eval (x.1.py x.2) env))) Q E s
  | [], O, m, s, A, Q, E, R, k => spliced_nil (k O s.heap [] R (fun _ _ e => e) (fun _ e => e) (fun _ e => .inl e) rfl List.nodup_nil (fun q hq => by simp at hq) (fun a ha => by simp at ha))
  | x :: l, O, m, s, A, Q, E, R, k => by
    refine spliced_cons (alloc_ok x.1 R fun h1 R1 s1 no1 own1 => ?_)
    refine allocs_ok l R1 fun O' h' as R2 s2 up new hl hn ho hf => ?_
    refine k O' h' (s.heap.objs.size :: as) R2 (fun b o e => s2 b o (s1 b o e)) (fun a e => up a (.inl e)) (fun a e => ?_) (by simp [hl]) (List.nodup_cons.mpr ⟨fun q => ?_, hn⟩) (fun q hq => ?_) (fun a ha => ?_)
    · rcases new a e with (e | e) | e
      · exact .inl e
      · exact .inr (e ▸ no1)
      · refine .inr ?_
        cases q : s.heap.get? a with
        | none => rfl
        | some o => have := s1 a o q; rw [show h1.get? a = none from e] at this; cases this
    · have := hf _ q
      obtain ⟨o, ho⟩ := own1.at
      rw [show h1.get? s.heap.objs.size = none from this] at ho; cases ho
    · rcases List.mem_cons.mp hq with rfl | hq
      · exact ⟨up _ (.inr rfl), own1.grow s2 new⟩
      · exact ho q hq
    · rcases List.mem_cons.mp ha with rfl | ha
      · exact no1
      · cases q : s.heap.get? a with
        | none => rfl
        | some o => have := s1 a o q; rw [show h1.get? a = none from hf a ha] at this; cases this
theorem star_dk : ∀ l : List (Dk × Pos), starEach (l.map fun x => x.1.py x.2) env = l.map fun x => (false, eval (x.1.py x.2) env)
  | [] => rfl
  | x :: l => by
    have : starEach (x.1.py x.2 :: l.map fun x => x.1.py x.2) env = (false, eval (x.1.py x.2) env) :: starEach (l.map fun x => x.1.py x.2) env := by
      obtain ⟨d, p⟩ := x
      cases d <;> rfl
    rw [List.map_cons, this, star_dk l]; rfl
theorem back_dk {p : Pos} : ∀ l : List (Dk × Pos), backTo p (l.map fun x => (false, eval (x.1.py x.2) env)) = l.map fun x => (false, eval (x.1.py x.2) env)
  | [] => rfl
  | x :: l => by
    show (false, _) :: backTo p (l.map fun x => (false, eval (x.1.py x.2) env)) = _
    rw [back_dk l]; rfl
/-- the frame's own new dicts and lists are none that it had -/
theorem RS.apart (R : RS prog w K n N W mg mb Y O σ α env h₀ m h) {a : Addr} (ha : h.get? a = none) : ∀ j u, σ[j]? = some (.ow u) → α j ≠ a := fun j u e q => by
  obtain ⟨o, ho⟩ := (R.ow j u e).2.2.at
  rw [q, ha] at ho; cases ho
theorem Gr.of_sub {L : Addr} {O O' : Ex} {h h' : Heap} (k : Sub h h') (up : ∀ a, O a → O' a) (new : ∀ a, O' a → O a ∨ h.get? a = none) : Gr L O h O' h' :=
  ⟨up, new, fun b o e _ _ => k b o e, fun b o e => ⟨o, k b o e⟩⟩

theorem x_own1 {i : Nat} {d : Dk} {px pv p : Pos} {σ' : Sg} (R : RS prog w K n N W mg mb Y O σ α env h₀ m s.heap) (e : owns σ [(i, d)] = some σ') : SOK prog w K n N W mg mb Y O env h₀ s (exec (S.py N (.own1 i d px pv p)) env) (.nx σ') := by
  intro A Q E ha ht k
  have hsw : swapsWith (d.py pv) (some (.Name (N.l i) px)) p.line env = pure false := by cases d <;> rfl
  refine wpAny_Assign_Name ?_ hsw
  refine alloc_ok d R fun h1 R1 s1 no1 own1 => ?_
  have e' : storeO σ i d.v = some σ' := by
    simp only [owns] at e
    split at e
    · rename_i h; cases e; exact h
    · cases e
  refine storeO_ok R1 e' (.inr rfl) own1 (R.apart no1) fun h2 m2 R2 _ g2 => ?_
  refine k .next h2 _ (by show 1 ≤ s.toks + 1; omega) ⟨rfl, _, _, _, ?_, R2⟩
  exact (Gr.of_sub s1 (fun _ y => .inl y) (fun a y => y.elim .inl fun q => .inr (q ▸ no1))).trans (R1.gr R2.fr g2)
theorem x_ownT {l : List (Nat × Dk × Pos × Pos)} {k1 k2 : Nat} {p1 p2 p : Pos} {σ' : Sg} (R : RS prog w K n N W mg mb Y O σ α env h₀ m s.heap) (e : owns σ (l.map fun x => (x.1, x.2.1)).reverse = some σ')
    (hb : l.length ≤ 8) (hsw : swappedStores [.Tuple (l.map fun x => .Name (N.l x.1) x.2.2.1) k1 p1] (.Tuple (l.map fun x => x.2.1.py x.2.2.2) k2 p2) env = pure (some (l.map fun x => N.l x.1))) :
    SOK prog w K n N W mg mb Y O env h₀ s (exec (S.py N (.ownT l k1 p1 k2 p2 p)) env) (.nx σ') := by
  intro A Q E ha ht k
  refine Assign_Tuple_swapped ?_ rfl hsw
  refine PyProof.Rows.Tuple_ ?_
  have he : (l.map fun x => x.2.1.py x.2.2.2) = (l.map fun x => (x.2.1, x.2.2.2)).map fun x : Dk × Pos => x.1.py x.2 := by rw [List.map_map]; rfl
  rw [he, star_dk, back_dk]
  refine allocs_ok _ R fun O1 h1 as R1 s1 up new hl hn ho hf => ?_
  have hl' : as.length = l.length := by simpa using hl
  refine newTuple_N R1.fr (ledg_news (h := h1)) (fun h2 F2 N2 => ?_) (by rw [List.length_map, hl', sizeLine_eq]; omega)
  have g2 : GL env.locals h1 h2 := ledg_gl1 R1.fr F2 N2
  have tup : IsTup h2 h1.objs.size (as.map Value.ref).toArray := ⟨_, (N2 _ (.head _)).1, rfl, _, rfl⟩
  have R2 := R1.gl F2 g2
  refine unpackItemsN_ F2 (ledg_news (h := h2)) tup ha.hd (by simp [hl']) fun h3 F3 N3 => ?_
  have g3 : GL env.locals h2 h3 := ledg_gl0 F2 F3 N3
  have R3 := R2.gl F3 g3
  have f1 : ((l.map fun x => N.l x.1).reverse.map fun n => bindName env n) = ((l.map fun x => (x.1, x.2.1, fun v => bindName env (N.l x.1) v)).reverse).map (fun p => p.2.2) := by
    rw [← List.map_reverse, ← List.map_reverse, List.map_map, List.map_map]; rfl
  have f2 : ((as.map Value.ref).toArray.toList).reverse = as.reverse.map Value.ref := by simp
  rw [f1, f2]
  refine owns_ok (σ' := σ') _ as.reverse (fun p hp val s Q h => ?_) R3 ?_ (by simp [hl']) (List.pairwise_reverse.mpr (hn.imp fun h => Ne.symm h)) (fun q hq => ?_) (fun a ha' => ?_) fun h4 m4 α4 tk ht4 R4 g4 => ?_
  · rw [List.mem_reverse, List.mem_map] at hp
    obtain ⟨x, _, rfl⟩ := hp
    exact bindName_ h
  · rw [← e, ← List.map_reverse, ← List.map_reverse, List.map_map]; rfl
  · have hq' : q ∈ ((l.map fun x => (x.2.1, x.2.2.2)).map (·.1)).zip as := by
      rw [← List.map_reverse, List.map_map] at hq
      rw [List.map_map]
      have hz : (List.map ((fun x : Nat × Dk × (Value → Sem Unit) => x.2.1) ∘ fun x : Nat × Dk × Pos × Pos => (x.1, x.2.1, fun v => bindName env (N.l x.1) v)) l.reverse).zip as.reverse = ((l.map ((fun x : Dk × Pos => x.1) ∘ fun x : Nat × Dk × Pos × Pos => (x.2.1, x.2.2.2))).zip as).reverse := by
        rw [List.map_reverse]
        show List.zipWith Prod.mk _ _ = (List.zipWith Prod.mk _ _).reverse
        rw [List.reverse_zipWith]
        · rfl
        · simp [hl']
      rw [hz, List.mem_reverse] at hq
      exact hq
    obtain ⟨x, y⟩ := ho q hq'
    have g23 := g2.trans g3
    exact ⟨x, y.gl (.inl R1.yl) (R1.ne x) g23⟩
  · exact R.apart (hf a (List.mem_reverse.mp ha'))
  · refine k .next h4 tk (by have : s.toks ≤ tk := ht4; omega) ⟨rfl, _, _, _, ?_, R4⟩
    have g23 := (g2.trans g3).trans g4
    exact (Gr.of_sub s1 up new).trans (R1.gr R4.fr g23)

theorem sw_expr (e : E) {t : Option PE} {l : Nat} : swapsWith (e.py N) t l env = pure false := by
  cases e <;> rfl
theorem x_asg {i : Nat} {e : E} {px p : Pos} {v : V} {σ' : Sg} (R : RS prog w K n N W mg mb Y O σ α env h₀ m s.heap) (he : evA W σ e = some v) (hs : storeF σ i v = some σ') : SOK prog w K n N W mg mb Y O env h₀ s (exec (S.py N (.asg i e px p)) env) (.nx σ') := by
  intro A Q E ha ht k
  refine wpAny_Assign_Name ?_ (sw_expr e)
  refine evA_ok R he ha ht fun val h1 t1 q1 F1 g1 v1 => ?_
  refine store_ok (R.gl F1 g1) hs v1 fun h2 m2 R2 g2 => ?_
  exact k .next h2 _ (by show 1 ≤ t1 + 1; omega) ⟨rfl, _, _, _, R.gr R2.fr (g1.trans g2), R2⟩
theorem assignEach_names : ∀ (l : List (Nat × Pos)), assignEach (l.map fun x => .Name (N.l x.1) x.2) env = l.map fun x => (false, fun v => assign (.Name (N.l x.1) x.2) env v)
  | [] => rfl
  | x :: l => by
    show (false, _) :: assignEach (l.map fun x => .Name (N.l x.1) x.2) env = _
    rw [assignEach_names l]; rfl
theorem noStar : ∀ (l : List (Nat × Pos)), (l.map fun x => ((false, fun v => assign (.Name (N.l x.1) x.2) env v) : Bool × (Value → Sem Unit))).findIdx? (·.1) = none
  | l => by
    rw [List.findIdx?_eq_none_iff]
    intro x hx
    obtain ⟨y, _, rfl⟩ := List.mem_map.mp hx
    rfl
theorem storeT_len : ∀ {l : List Nat} {vs : List V} {σ σ' : Sg}, storeT σ l vs = some σ' → l.length = vs.length
  | [], [], _, _, _ => rfl
  | [], _ :: _, _, _, e => by cases e
  | _ :: _, [], _, _, e => by cases e
  | i :: l, v :: vs, σ, _, e => by
    simp only [storeT] at e
    split at e
    · simp [storeT_len e]
    · cases e
/-- the items of a tuple or list go into a tuple of names -/
theorem tuple_ok {l : List (Nat × Pos)} {k0 : Nat} {tp : Pos} {T : Addr} {vals : List Value} {vs : List V} {σ' : Sg} {A : Around} {Q : Unit → Shared → Prop} {E : Value → Shared → Prop} (hh : A.handled = none) (R : RS prog w K n N W mg mb Y O σ α env h₀ m s.heap)
    (ht : IsTup s.heap T vals.toArray ∨ s.heap.IsList T vals.toArray) (hv : VRs prog w (Xo Y O) s.heap vs vals) (e : storeT σ (l.map (·.1)) vs = some σ')
    (k : ∀ h' m' tk, s.toks ≤ tk → RS prog w K n N W mg mb Y O σ' α env h₀ m' h' → GL env.locals s.heap h' → Q () { s with heap := h', toks := tk }) :
    wpAny (model prog w) A (assign (.Tuple (l.map fun x => .Name (N.l x.1) x.2) k0 tp) env (.ref T)) Q E s := by
  have hlen : l.length = vals.length := by have := storeT_len e; rw [hv.length]; simpa using this
  have fin : ∀ h', Fr h₀ env.locals h' m → News h₀ env.locals h' (ledg h₀ env.locals s.heap) → wpAny (model prog w) A (assignInOrder ((assignEach (l.map fun x => .Name (N.l x.1) x.2) env).map (·.2)) vals.toArray.toList) Q E { s with heap := h' } := by
    intro h' F' N'
    have g : GL env.locals s.heap h' := ledg_gl0 R.fr F' N'
    have f1 : (assignEach (l.map fun x => .Name (N.l x.1) x.2) env).map (·.2) = (l.map fun x => (x.1, fun v => assign (.Name (N.l x.1) x.2) env v)).map (·.2) := by
      rw [assignEach_names, List.map_map, List.map_map]; rfl
    rw [f1]
    refine assigns_ok _ vs _ (fun p hp val s Q h => ?_) (R.gl F' g) ?_ (hv.gl (.inl R.yl) g) fun h2 m2 tk ht2 R2 g2 => k h2 m2 tk ht2 R2 (g.trans g2)
    · obtain ⟨x, _, rfl⟩ := List.mem_map.mp hp
      exact wpAny_assign_Name h
    · rw [List.map_map]; exact e
  rcases ht with ht | ht
  · exact unpackN_ R.fr ledg_news ht hh (by rw [assignEach_names]; simp [hlen]) (by rw [assignEach_names]; exact noStar l) fin
  · exact kun_list R.fr ledg_news ht hh (by rw [assignEach_names]; simp [hlen]) (by rw [assignEach_names]; exact noStar l) fin
theorem sole_expr (e : E) {l : List (Nat × Pos)} {k : Nat} {tp : Pos} {n : Nat} : swapsWithSole [.Tuple (l.map fun x => .Name (N.l x.1) x.2) k tp] (e.py N) n env = pure false := by
  cases e <;> rfl
theorem x_asgT {l : List (Nat × Pos)} {k0 : Nat} {tp p : Pos} {e : E} {v : V} {vs : List V} {σ' : Sg} (R : RS prog w K n N W mg mb Y O σ α env h₀ m s.heap) (he : evA W σ e = some v) (hv : v = .tup vs ∨ v = .lst vs) (hs : storeT σ (l.map (·.1)) vs = some σ')
    (hw : swappedStores [.Tuple (l.map fun x => .Name (N.l x.1) x.2) k0 tp] (e.py N) env = pure none) : SOK prog w K n N W mg mb Y O env h₀ s (exec (S.py N (.asgT l k0 tp e p)) env) (.nx σ') := by
  intro A Q E ha ht k
  refine Assign_Tuple ?_ (sole_expr e) hw
  refine evA_ok R he ha ht fun val h1 t1 q1 F1 g1 v1 => ?_
  have R1 := R.gl F1 g1
  have : ∃ T vals, val = .ref T ∧ (IsTup h1 T (List.toArray vals) ∨ h1.IsList T (List.toArray vals)) ∧ VRs prog w (Xo Y O) h1 vs vals := by
    rcases hv with rfl | rfl
    · obtain ⟨a, xs, rfl, _, ho, hl⟩ := v1; exact ⟨a, xs, rfl, .inl ho.l, hl⟩
    · obtain ⟨a, xs, rfl, _, ho, hl⟩ := v1; exact ⟨a, xs, rfl, .inr ho.l, hl⟩
  obtain ⟨T, vals, rfl, h2, h3⟩ := this
  refine tuple_ok ha.hd R1 h2 h3 hs fun h4 m4 tk ht4 R4 g4 => ?_
  exact k .next h4 tk (by have : t1 ≤ tk := ht4; omega) ⟨rfl, _, _, _, R.gr R4.fr (g1.trans g4), R4⟩
theorem VRs.reverse : ∀ {l : List V} {xs : List Value}, VRs prog w X h l xs → VRs prog w X h l.reverse xs.reverse
  | [], _, e => by cases e; rfl
  | v :: l, _, ⟨x, r, e, hv, hr⟩ => by
    subst e
    rw [List.reverse_cons, List.reverse_cons]
    exact (VRs.reverse hr).append ⟨x, [], rfl, hv, rfl⟩
theorem x_asgX {l : List (Nat × Pos)} {k0 : Nat} {tp p : Pos} {e : E} {vs : List V} {σ' : Sg} (R : RS prog w K n N W mg mb Y O σ α env h₀ m s.heap) (he : evA W σ e = some (.tup vs)) (hs : storeT σ (l.map (·.1)).reverse vs.reverse = some σ')
    (hw : swappedStores [.Tuple (l.map fun x => .Name (N.l x.1) x.2) k0 tp] (e.py N) env = pure (some (l.map fun x => N.l x.1))) : SOK prog w K n N W mg mb Y O env h₀ s (exec (S.py N (.asgX l k0 tp e p)) env) (.nx σ') := by
  intro A Q E ha ht k
  refine Assign_Tuple_swapped ?_ (sole_expr e) hw
  refine evA_ok R he ha ht fun val h1 t1 q1 F1 g1 v1 => ?_
  have R1 := R.gl F1 g1
  obtain ⟨T, vals, rfl, _, h2, h3⟩ := v1
  have hlen : l.length = vals.length := by have := storeT_len hs; rw [h3.length]; simpa using this
  refine unpackItemsN_ F1 (ledg_news (h := h1)) h2.l ha.hd (by simp [hlen]) fun h3' F3 N3 => ?_
  have g3 : GL env.locals h1 h3' := ledg_gl0 F1 F3 N3
  have f1 : ((l.map fun x => N.l x.1).reverse.map fun n => bindName env n) = ((l.map fun x => (x.1, fun v => bindName env (N.l x.1) v)).reverse).map (fun p => p.2) := by
    rw [← List.map_reverse, ← List.map_reverse, List.map_map, List.map_map]; rfl
  rw [f1]
  refine assigns_ok (σ' := σ') _ vs.reverse _ (fun p hp val s Q h => ?_) (R1.gl F3 g3) ?_ (VRs.reverse (h3.gl (.inl R.yl) g3)) fun h4 m4 tk ht4 R4 g4 => ?_
  · rw [List.mem_reverse, List.mem_map] at hp
    obtain ⟨x, _, rfl⟩ := hp
    exact bindName_ h
  · rw [← hs, ← List.map_reverse, ← List.map_reverse, List.map_map]; rfl
  · exact k .next h4 tk (by have : t1 ≤ tk := ht4; omega) ⟨rfl, _, _, _, R.gr R4.fr ((g1.trans g3).trans g4), R4⟩
end
end Mine

namespace Mine
section
variable {prog : Program} {w : World} {A : Around} {E : Value → Shared → Prop} {s : Shared}
theorem setItem_last {l : Addr} {items : Array Value} {t : Tok} {v : Value} {n : Nat} {Q : Unit → Shared → Prop} (hl : s.heap.get? l = some { cls := .type "list", data := .seq items n }) (h1 : 1 ≤ items.size) 
    (hQ : Q () { s with heap := s.heap.update l (Obj.mapSeq (·.setIfInBounds (items.size - 1) v)) }) : wpAny (model prog w) A (setItem (.ref l) (.int (-1) t) v) Q E s := by
  have hL : s.heap.IsList l items := ⟨_, hl, rfl, _, rfl⟩
  unfold setItem
  try with_reducible refine wpAny_holding ?_
  first | refine wpAny_bind (wpAny_pure ?_) | skip
  refine wpAny_bind (wpAny_sequenceKey hL.typeIs (by decide) ?_)
  refine wpAny_bind (wpAny_callSpecial?_slot (name := Str.ofString "__setitem__") hL.typeIs slot_list_setitem
    (wpAny_call_entry slot_list_setitem hL.typeIs entry_list_setitem ?_ (args_list_setitem _ _ _)))
  show wpAny _ _ (Builtin.List.listSubscript? (.int (-1) t) >>= _) _ _ s
  refine wpAny_bind (wpAny_listSubscript_int (fitsIndex_neg (by decide) (by decide)) ?_)
  have hidx : seqIndex? (-1) items.size = some (-1 + (items.size : Int)).toNat := PySem.seqIndex_neg (by decide) (by omega)
  show wpAny _ _ ((Builtin.List.listItems (.ref l) >>= fun xs => pure ((seqIndex? (Int.negSucc 0) xs.size).bind fun i => xs[i]?.map (i, ·))) >>= _) _ _ s
  refine wpAny_bind (wpAny_bind ?_)
  show wpAny _ _ (seqItems? (.ref l) >>= _) _ _ s
  refine wpAny_bind (wpAny_seqItems hl rfl (wpAny_pure (wpAny_pure ?_)))
  have e1 : seqIndex? (Int.negSucc 0) items.size = some (items.size - 1) := by
    rw [show Int.negSucc 0 = -1 from rfl, hidx]; congr 1; omega
  rw [e1]
  have e2 : items[items.size - 1]? = some (items[items.size - 1]'(by omega)) := Array.getElem?_eq_getElem (by omega)
  simp only [Option.bind_some, e2, Option.map_some]
  show wpAny _ _ (setSeqItemAt l (items.size - 1) v >>= _) _ _ s
  refine wpAny_bind (wpAny_setSeqItemAt hl rfl ?_)
  first
    | exact wpAny_bind (wpAny_pure (wpAny_pure ⟨.none, rfl, wpAny_pure hQ⟩))
    | exact wpAny_pure ⟨.none, rfl, wpAny_pure hQ⟩
end
section
variable {prog : Program} {w : World} {K : Frag} {n : Nat} {N : Nm} {W : Wd} {X X' Y O O' : Ex} {σ σ' : Sg} {α : Nat → Addr} {env : Env} {h₀ h h' : Heap} {m m' mg mb : Str → Option Value} {s : Shared}
theorem upd_at (i : Int) (x : V) {val : Value} (hv : VR prog w X h x val) : ∀ {ks : List Int} {vs : List V} {xs : List Value}, VRs prog w X h vs xs → ks.length = xs.length →
    ∃ ys, (ks.zip xs).map (fun kv => if kv.1 = i then (kv.1, val) else kv) = ks.zip ys ∧ ks.length = ys.length ∧ VRs prog w X h (updI ks vs i x) ys
  | [], vs, xs, h, hl => by
    have : xs = [] := by cases xs <;> simp_all
    subst this
    exact ⟨[], rfl, rfl, by simp [updI, VRs]⟩
  | k :: ks, [], xs, e, hl => by cases e; simp at hl
  | k :: ks, v :: vs, xs, ⟨y, r, e, h1, h2⟩, hl => by
    subst e
    obtain ⟨ys, a, b, c⟩ := upd_at i x hv h2 (by simpa using hl)
    by_cases q : k = i
    · exact ⟨val :: ys, by simp [q, a], by simp [b], by simp only [updI, if_pos q]; exact ⟨_, _, rfl, hv, c⟩⟩
    · exact ⟨y :: ys, by simp [q, a], by simp [b], by simp only [updI, if_neg q]; exact ⟨_, _, rfl, h1, c⟩⟩
theorem upd_atS (i : List Nat) (x : V) {val : Value} (hv : VR prog w X h x val) : ∀ {ks : List (List Nat)} {vs : List V} {xs : List Value}, VRs prog w X h vs xs → ks.length = xs.length →
    ∃ ys, ((ks.map mkS).zip xs).map (fun kv => if kv.1 = mkS i then (kv.1, val) else kv) = (ks.map mkS).zip ys ∧ ks.length = ys.length ∧ VRs prog w X h (updS ks vs i x) ys
  | [], vs, xs, h, hl => by
    have : xs = [] := by cases xs <;> simp_all
    subst this
    exact ⟨[], rfl, rfl, by simp [updS, VRs]⟩
  | k :: ks, [], xs, e, hl => by cases e; simp at hl
  | k :: ks, v :: vs, xs, ⟨y, r, e, h1, h2⟩, hl => by
    subst e
    obtain ⟨ys, a, b, c⟩ := upd_atS i x hv h2 (by simpa using hl)
    by_cases q : k = i
    · exact ⟨val :: ys, by simp [q, a], by simp [b], by simp only [updS, if_pos q]; exact ⟨_, _, rfl, hv, c⟩⟩
    · have q' : ¬ mkS k = mkS i := fun z => q (mkS_inj.mp z)
      exact ⟨y :: ys, by simp [q', a], by simp [b], by simp only [updS, if_neg q]; exact ⟨_, _, rfl, h1, c⟩⟩
theorem put_at {ks : List Int} {vs : List V} {xs : List Value} {i : Int} {x : V} {val : Value} (hr : VRs prog w X h vs xs) (hl : ks.length = xs.length) (hv : VR prog w X h x val) :
    ∃ ys, stored (ks.zip xs) i val = (putI ks vs i x).1.zip ys ∧ (putI ks vs i x).1.length = ys.length ∧ VRs prog w X h (putI ks vs i x).2 ys := by
  have ha : ((ks.zip xs).any fun kv => decide (kv.1 = i)) = true ↔ i ∈ ks := by
    rw [List.any_eq_true]
    constructor
    · rintro ⟨p, hp, q⟩
      have := (List.of_mem_zip hp).1
      simp at q; exact q ▸ this
    · intro hi
      obtain ⟨j, hj, e⟩ := List.mem_iff_getElem.mp hi
      refine ⟨(ks[j], xs[j]'(hl ▸ hj)), ?_, by simp [e]⟩
      rw [List.mem_iff_getElem]
      exact ⟨j, by simp; omega, by simp⟩
  unfold stored putI
  by_cases q : i ∈ ks
  · obtain ⟨ys, a, b, c⟩ := upd_at i x hv hr hl
    rw [if_pos (ha.mpr q), if_pos q]
    exact ⟨ys, a, b, c⟩
  · rw [if_neg (fun z => q (ha.mp z)), if_neg q]
    refine ⟨xs ++ [val], ?_, by simp [hl], hr.append ⟨val, [], rfl, hv, rfl⟩⟩
    rw [List.zip_append hl]; rfl
theorem put_atS {ks : List (List Nat)} {vs : List V} {xs : List Value} {i : List Nat} {x : V} {val : Value} (hr : VRs prog w X h vs xs) (hl : ks.length = xs.length) (hv : VR prog w X h x val) :
    ∃ ys, stored ((ks.map mkS).zip xs) (mkS i) val = ((putS ks vs i x).1.map mkS).zip ys ∧ (putS ks vs i x).1.length = ys.length ∧ VRs prog w X h (putS ks vs i x).2 ys := by
  have ha : (((ks.map mkS).zip xs).any fun kv => decide (kv.1 = mkS i)) = true ↔ i ∈ ks := by
    rw [List.any_eq_true]
    constructor
    · rintro ⟨p, hp, q⟩
      have := (List.of_mem_zip hp).1
      simp at q
      obtain ⟨k, hk, e⟩ := List.mem_map.mp this
      exact (mkS_inj.mp (e.trans q)) ▸ hk
    · intro hi
      obtain ⟨j, hj, e⟩ := List.mem_iff_getElem.mp hi
      refine ⟨(mkS ks[j], xs[j]'(hl ▸ hj)), ?_, by simp [e]⟩
      rw [List.mem_iff_getElem]
      exact ⟨j, by simp; omega, by simp⟩
  unfold stored putS
  by_cases q : i ∈ ks
  · obtain ⟨ys, a, b, c⟩ := upd_atS i x hv hr hl
    rw [if_pos (ha.mpr q), if_pos q]
    exact ⟨ys, a, b, c⟩
  · rw [if_neg (fun z => q (ha.mp z)), if_neg q]
    refine ⟨xs ++ [val], ?_, by simp [hl], hr.append ⟨val, [], rfl, hv, rfl⟩⟩
    rw [List.map_append, List.zip_append (by simpa using hl)]; rfl
theorem SameBut.vr {a : Addr} {h h' : Heap} (sb : Heap.SameBut a h h') (hX : X a) : ∀ b o, ¬ X b → h.get? b = some o → h'.get? b = some o := fun b o hb e => (sb.2 b fun q => hb (q ▸ hX)).trans e
theorem LstAt.mapped {a : Addr} {xs ys : List Value} {nn : Nat} {f : Array Value → Array Value} (ho : h.get? a = some { cls := .type "list", data := .seq (List.toArray xs) nn }) (e : f (List.toArray xs) = List.toArray ys) : LstAt (h.update a (Obj.mapSeq f)) a ys := by
  obtain ⟨n', q⟩ : ∃ n', Obj.mapSeq f { cls := .type "list", data := .seq (List.toArray xs) nn } = { cls := .type "list", data := .seq (f (List.toArray xs)) n' } := ⟨_, rfl⟩
  refine ⟨n', ?_⟩
  rw [Heap.get?_update_self _ ho (by rw [q]; rfl), q, e]
theorem set_ok {a : Addr} {o k x o' : V} {kv xv : Value} {A : Around} {Q : Unit → Shared → Prop} {E : Value → Shared → Prop} (hX : X a) (ho : OwnAt prog w X s.heap a o) (hk : VR prog w X s.heap k kv) (hx : VR prog w X s.heap x xv) (e : setV o k x = some o')
    (q : ∀ h' tk, s.toks ≤ tk → Heap.SameBut a s.heap h' → OwnAt prog w X h' a o' → Q () { s with heap := h', toks := tk }) : wpAny (model prog w) A (setItem (.ref a) kv xv) Q E s := by
  unfold setV at e
  split at e
  · rename_i ks vs i
    split at e <;> cases e
    rename_i hb
    obtain ⟨xs, hd, hl, hm, hv⟩ := ho
    obtain ⟨t, rfl⟩ := hk
    unfold big at hb
    refine wpAny_setItem_pairs (intKind_is _ _ _ _) hd (fun h' hd' sb => q h' _ (Nat.le_succ _) sb ?_) ?_
    · obtain ⟨ys, a1, a2, a3⟩ := put_at (i := i) hv hl hx
      refine ⟨ys, a1 ▸ hd', a2, hm, a3.mono (SameBut.vr sb hX) fun _ _ _ y => y⟩
    · rw [List.length_zip, sizeLine_eq]; omega
  · rename_i ks vs i
    split at e <;> cases e
    rename_i hb
    obtain ⟨xs, hd, hl, hm, hv⟩ := ho
    obtain ⟨t, rfl⟩ := hk
    unfold big at hb
    refine wpAny_setItem_pairs (strKind_is _ _ _ _) hd (fun h' hd' sb => q h' _ (Nat.le_succ _) sb ?_) ?_
    · obtain ⟨ys, a1, a2, a3⟩ := put_atS (i := i) hv hl hx
      refine ⟨ys, a1 ▸ hd', a2, hm, a3.mono (SameBut.vr sb hX) fun _ _ _ y => y⟩
    · rw [List.length_zip, List.length_map, sizeLine_eq]; omega
  · rename_i l i
    split at e <;> cases e
    rename_i hb
    obtain ⟨rfl, h1, h2⟩ := hb
    obtain ⟨xs, ⟨nn, ho⟩, hv⟩ := ho
    obtain ⟨t, rfl⟩ := hk
    have hl := hv.length
    refine setItem_last ho (by simp; omega) (q _ s.toks (Nat.le_refl _) (Heap.SameBut.update ..) ?_)
    refine ⟨xs.set (xs.length - 1) xv, LstAt.mapped ho (by simp), ?_⟩
    rw [← hl]
    exact ((VRs.set _ hv hx)).mono (SameBut.vr (Heap.SameBut.update ..) hX) fun _ _ _ y => y
  · cases e

theorem getO_at {i : Nat} {v : V} (e : getO σ i = some v) : σ[i]? = some (.ow v) := by
  unfold getO at e
  split at e
  · rename_i h; cases e; exact h
  · cases e
theorem ownName_ok {i : Nat} {v : V} {p : Pos} {A : Around} {Q : Value → Shared → Prop} {E : Value → Shared → Prop} (R : RS prog w K n N W mg mb Y O σ α env h₀ m s.heap) (e : σ[i]? = some (.ow v)) (k : Q (.ref (α i)) s) : wpAny (model prog w) A (eval (.Name (N.l i) p) env) Q E s := by
  obtain ⟨hd, hl⟩ := R.kd i _ e trivial
  exact wpAny_Name (wpAny_loadName_local R.cx.ek hl R.fr.ns (R.ow i v e).2.1 k) hd
theorem x_setI {i : Nat} {ke ve : E} {pi ps p : Pos} {x o k o' : V} (R : RS prog w K n N W mg mb Y O σ α env h₀ m s.heap) (hx : evA W σ ve = some x) (ho : getO σ i = some o) (hk : evA W σ ke = some k) (e : setV o k x = some o') :
    SOK prog w K n N W mg mb Y O env h₀ s (exec (S.py N (.setI i ke ve pi ps p)) env) (.nx (setOw σ i o')) := by
  intro A Q E ha ht kk
  replace ho := getO_at ho
  refine wpAny_Assign_Subscript ?_ (sw_expr ve)
  refine evA_ok R hx ha ht fun xv h1 t1 q1 F1 g1 v1 => ?_
  refine ownName_ok (R.gl F1 g1) ho ?_
  refine evA_ok (R.gl F1 g1) hk ha q1 fun kv h2 t2 q2 F2 g2 v2 => ?_
  have R2 := R.gl F2 (g1.trans g2)
  obtain ⟨hO, hm, hv⟩ := R2.ow i o ho
  refine set_ok (.inr hO) hv v2 (v1.gl (.inl R.yl) g2) e fun h3 tk ht3 sb ho' => ?_
  obtain ⟨R3, G3⟩ := R2.mut ho sb ho'
  exact kk .next h3 tk (by have : t2 ≤ tk := ht3; omega) ⟨rfl, _, _, _, (R.gr F2 (g1.trans g2)).trans G3, R3⟩
theorem methEq {i : Nat} {nm : Str} {args : List PE} {pi pa p : Pos} (hp : (pa.endLine == p.line) = true) (hf : methodCallForm args.length (backTo p (starEach args env)) [] = true) : eval (.Call (.Attribute (.Name (N.l i) pi) nm pa) args [] p) env = (do
    let ov ← eval (.Name (N.l i) pi) env
    standAt pa.atName
    let (f, first) ← holding [ov] (getMethod ov nm (do return (← importBound (.Name (N.l i) pi) env).getD true))
    callWith p f first (backTo p (starEach args env)) []) := by
  have e1 : eval (.Call (.Attribute (.Name (N.l i) pi) nm pa) args [] p) env = (do
      let ov ← eval (.Name (N.l i) pi) env
      standAt pa.atName
      methodCall (.Name (N.l i) pi) nm pa p env ov args.length (backTo p (starEach args env)) []) := rfl
  rw [e1]
  unfold methodCall
  rw [hf]
  have e2 : methodCallPos true (.Name (N.l i) pi) env pa p = pure p := by
    unfold methodCallPos
    rw [hp]
    rfl
  rw [e2]
  rfl
theorem x_app {i : Nat} {e : E} {pi pa pc p : Pos} {x o o' : V} (R : RS prog w K n N W mg mb Y O σ α env h₀ m s.heap) (hp : (pa.endLine == pc.line) = true) (ho : getO σ i = some o) (hx : evA W σ e = some x) (hs : appV o x = some o') :
    SOK prog w K n N W mg mb Y O env h₀ s (exec (S.py N (.app i e pi pa pc p)) env) (.nx (setOw σ i o')) := by
  intro A Q E ha ht kk
  replace ho := getO_at ho
  refine wpAny_Expr ?_ (by unfold interactive; first | rfl | (rw [R.cx.ek]; rfl)) rfl
  unfold appV at hs
  split at hs
  · rename_i l
    split at hs <;> cases hs
    rename_i hb
    unfold big at hb
    obtain ⟨hO, hm, xs0, ⟨n0, ho0⟩, hl0⟩ := R.ow i _ ho
    refine MethodCall_ (pl := do return (← importBound (.Name (N.l i) pi) env).getD true) (ownName_ok R ho ?_) (methEq hp (by rw [star_one]; rfl))
    refine getMethod_list_append ho0 rfl rfl ?_
    show wpAny (model prog w) _ (callWith pc (.builtin "list.append") [.ref (α i)] (backTo pc (starEach [e.py N] env)) []) _ _ _
    rw [star_one]
    refine callWith_builtin rfl (evalArgs_plain ?_)
    refine spliced_cons (evA_ok R hx ha ht fun xv h1 t1 q1 F1 g1 v1 => spliced_nil ?_)
    have R1 := R.gl F1 g1
    obtain ⟨hO, hm, xs, ⟨nn, ho1⟩, hl⟩ := R1.ow i _ ho
    refine wpAny_list_append_plain ⟨nn, ho1⟩ (fun h2 hp2 sb => ?_) (by rw [List.size_toArray, hl.length, sizeLine_eq]; omega)
    have ow2 : OwnAt prog w (Xo Y O) h2 (α i) (.lst (l ++ [x])) := by
      obtain ⟨n2, q⟩ := hp2
      refine ⟨xs ++ [xv], ⟨n2, by rw [q]; simp⟩, (VRs.append (k := [x]) hl ⟨xv, [], rfl, v1, rfl⟩).mono (SameBut.vr sb (.inr hO)) fun _ _ _ y => y⟩
    obtain ⟨R3, G3⟩ := R1.mut ho sb ow2
    exact kk .next h2 _ q1 ⟨rfl, _, _, _, (R.gr F1 g1).trans G3, R3⟩
  · cases hs
theorem pop_ok {i : Nat} {pi pa pc : Pos} {x o o' : V} {A : Around} {Q : Value → Shared → Prop} {E : Value → Shared → Prop} (R : RS prog w K n N W mg mb Y O σ α env h₀ m s.heap) (hp : (pa.endLine == pc.line) = true) (ho : getO σ i = some o) (hs : popV o = some (x, o'))
    (k : ∀ xv h', RS prog w K n N W mg mb Y O (setOw σ i o') α env h₀ m h' → Gr env.locals O s.heap O h' → VR prog w (Xo Y O) h' x xv → Q xv { s with heap := h' }) :
    wpAny (model prog w) A (eval (.Call (.Attribute (.Name (N.l i) pi) (Str.ofString "pop") pa) [] [] pc) env) Q E s := by
  replace ho := getO_at ho
  unfold popV at hs
  split at hs
  · rename_i l
    split at hs <;> try (cases hs; done)
    rename_i hb
    split at hs <;> cases hs
    rename_i hx
    unfold big at hb
    obtain ⟨hO, hm, xs, ⟨n0, ho0⟩, hl⟩ := R.ow i _ ho
    obtain ⟨xv, hxv, hv⟩ := hl.get hx
    refine MethodCall_ (pl := do return (← importBound (.Name (N.l i) pi) env).getD true) (ownName_ok R ho ?_) (methEq hp rfl)
    refine getMethod_builtin (T := "list") ⟨_, ho0, rfl⟩ PySem.F.plainAttrs_list PySem.F.slot_list_pop PySem.F.type_list_pop (fun a q => ?_) ?_
    · cases q; exact ⟨_, ho0, rfl⟩
    show wpAny (model prog w) _ (callWith pc (.builtin "list.pop") [.ref (α i)] [] []) _ _ _
    refine callWith_builtin rfl (PyProof.Rows.evalArgs_none ?_)
    have hlen : xs.length = l.length := hl.length
    refine call_meets (rest := []) PySem.F.slot_list_pop (⟨_, ho0, rfl⟩ : s.TypeIs (.ref (α i)) "list") PySem.F.entry_list_pop (PySem.F.args_list_pop_1 _) (PySem.MeetsSeq.list_pop_last (α i) (List.toArray xs) n0 xv (by rw [List.size_toArray, hlen]; simpa using hxv) (by rw [List.size_toArray, hlen, sizeLine_eq]; omega)) ⟨ho0, ?_⟩
    have sb : Heap.SameBut (α i) s.heap (s.heap.update (α i) (Obj.mapSeq fun xs_1 => xs_1.eraseIdxIfInBounds ((List.toArray xs).size - 1))) := Heap.SameBut.update ..
    have ow2 : OwnAt prog w (Xo Y O) (s.heap.update (α i) (Obj.mapSeq fun xs_1 => xs_1.eraseIdxIfInBounds ((List.toArray xs).size - 1))) (α i) (.lst (l.take (l.length - 1))) := by
      refine ⟨xs.take (xs.length - 1), LstAt.mapped ho0 ?_, ?_⟩
      · simp
        exact List.dropLast_eq_take ..
      · rw [hlen]
        exact (VRs.take _ hl).mono (SameBut.vr sb (.inr hO)) fun _ _ _ y => y
    obtain ⟨R3, G3⟩ := R.mut ho sb ow2
    exact k xv _ R3 G3 (hv.mono (SameBut.vr sb (.inr hO)) fun _ _ _ y => y)
  · cases hs
end
end Mine

namespace Mine
section
variable {prog : Program} {w : World} {K : Frag} {n : Nat} {N : Nm} {W : Wd} {X X' Y Y' O O' : Ex} {σ σ' : Sg} {α : Nat → Addr} {env : Env} {h₀ h h' : Heap} {m m' mg mb : Str → Option Value} {s : Shared}
theorem RS.move (R : RS prog w K n N W mg mb Y O σ α env h₀ m h) (hk : ∀ b o, ¬ Y b → b ≠ env.locals → h.get? b = some o → h'.get? b = some o) (hY : ∀ a o, h.get? a = some o → Xo Y' O a → Xo Y O a) (yl : Y' env.locals) (xd : XD (Xo Y' O) h') (ol : ∀ a, O a → ¬ Y' a) (F : Fr h₀ env.locals h' m) :
    RS prog w K n N W mg mb Y' O σ α env h₀ m h' where
  cx := R.cx.keepX (fun b o hb e => hk b o (fun y => hb (.inl y)) (fun q => hb (.inl (q ▸ R.yl))) e) hY (.inl yl) xd F
  ol := fun a ha => ⟨ol a ha, (R.ol a ha).2⟩
  yl := yl
  inj := R.inj
  ow := fun i v e => by
    obtain ⟨a, b, c⟩ := R.ow i v e
    exact ⟨a, b, c.mono (fun o => hk _ o (R.ol _ a).1 (R.ne a)) (fun b o hb e => hk b o (fun y => hb (.inl y)) (fun q => hb (.inl (q ▸ R.yl))) e) hY⟩
  kd := R.kd
  nj := R.nj
/-- the item of a turn -/
noncomputable def ItR (prog : Program) (w : World) (t : Tg) (X : Ex) (h : Heap) (u : V) (v : Value) : Prop := match t with
  | .nm _ _ => VR prog w X h u v
  | .tp _ _ _ => ∀ vs, u = .tup vs → ∃ T xs, v = .ref T ∧ IsTup h T (List.toArray xs) ∧ VRs prog w X h vs xs
theorem tgt_ok {t : Tg} {u : V} {v : Value} {A : Around} {Q : Unit → Shared → Prop} {E : Value → Shared → Prop} (hh : A.handled = none) (R : RS prog w K n N W mg mb Y O σ α env h₀ m s.heap) (hi : ItR prog w t (Xo Y O) s.heap u v) (e : storeG σ t u = some σ')
    (k : ∀ h' m' tk, s.toks ≤ tk → RS prog w K n N W mg mb Y O σ' α env h₀ m' h' → GL env.locals s.heap h' → Q () { s with heap := h', toks := tk }) : wpAny (model prog w) A (assign (t.py N) env v) Q E s := by
  cases t with
  | nm i p => exact wpAny_assign_Name (store_ok R e hi fun h' m' R' g => k h' m' _ (Nat.le_succ _) R' g)
  | tp l k0 p =>
    simp only [storeG] at e
    split at e
    · rename_i xs
      obtain ⟨T, ys, rfl, h1, h2⟩ := hi xs rfl
      exact tuple_ok hh R (.inl h1) h2 e k
    · cases e
theorem loop_ok {t : Tg} {f : Sg → Option Oc} {body : List PS} {l : List V} {oc : Oc} {A : Around} {I : Addr} {fp wr : List Addr} {P Md : Nat → Value → Heap → Prop} {St : Nat → Heap → Prop} {s2 : Shared} {R' : Result → Shared → Prop}
    (ha : AOK n A) (W1 : KTurns prog w A (t.py N) I fp wr l.length P Md St) (Ky : Ex → Heap → Prop)
    (hKy : ∀ X X' h h', Ky X h → (∀ b o, ¬ X b → h.get? b = some o → h'.get? b = some o) → (∀ a o, h.get? a = some o → X' a → X a) → Ky X' h')
    (hit : ∀ i v h X u, P i v h → Ky X h → l[i]? = some u → ItR prog w t X h u v) (hex : ∀ i h, St i h → ∀ b ∈ wr, ∃ o, h.get? b = some o)
    (hb : ∀ {Y O : Ex} {σ : Sg} {α : Nat → Addr} {m : Str → Option Value} {s : Shared} {oc : Oc}, f σ = some oc → RS prog w K n N W mg mb Y O σ α env h₀ m s.heap → SOK prog w K n N W mg mb Y O env h₀ s (execs body env) oc)
    (R : RS prog w K n N W mg mb Y O σ α env h₀ m s.heap) (sub : Sub s.heap s2.heap) (hst : St 0 s2.heap) (hky : Ky (Xo Y O) s.heap) (fresh : ∀ b ∈ wr, s.heap.get? b = none)
    (hfp : ∀ b ∈ fp, b ∈ wr ∨ (b ≠ env.locals ∧ ¬ O b ∧ ∃ o, s.heap.get? b = some o)) (ht : 1 ≤ s2.toks) (e : loopV t f l σ = some oc)
    (hR : ∀ fl h' tk, 1 ≤ tk → OutOK prog w K n N W mg mb Y O env h₀ s.heap oc fl h' → R' (.ok fl) { s2 with heap := h', toks := tk }) :
    codeAny (model prog w) A (.forLoop (t.py N) (.ref I) body [] env) R' s2 := by
  have frw : ∀ b ∈ wr, ∀ o, s.heap.get? b ≠ some o := fun b hb o q => by rw [fresh b hb] at q; cases q
  have yw : ∀ a, Xo Y O a → a ∉ wr := fun a y hm => by
    obtain ⟨o, ho⟩ := R.cx.st.xd a y
    exact frw a hm o ho
  have Lw : env.locals ∉ wr := yw _ (.inl R.yl)
  let Yw : Ex := fun a => Y a ∨ a ∈ wr
  have F2 : Fr h₀ env.locals s2.heap m := ⟨R.fr.ns.keeps sub, fun b o q => sub b o (R.fr.keep b o q), R.fr.above⟩
  have R2 : RS prog w K n N W mg mb Yw O σ α env h₀ m s2.heap := by
    refine R.move (fun b o _ _ q => sub b o q) (fun a o q y => ?_) (.inl R.yl) (fun a y => ?_) (fun a y q => ?_) F2
    · rcases y with (y | y) | y
      · exact .inl y
      · exact (frw a y o q).elim
      · exact .inr y
    · rcases y with (y | y) | y
      · obtain ⟨o, ho⟩ := R.cx.st.xd a (.inl y); exact ⟨o, sub a o ho⟩
      · exact hex 0 _ hst a y
      · obtain ⟨o, ho⟩ := R.cx.st.xd a (.inr y); exact ⟨o, sub a o ho⟩
    · exact q.elim (R.ol a y).1 (yw a (.inr y))
  have ky2 : Ky (Xo Yw O) s2.heap := hKy _ _ _ _ hky (fun b o _ q => sub b o q) fun a o q y => by
    rcases y with (y | y) | y
    · exact .inl y
    · exact (frw a y o q).elim
    · exact .inr y
  have nx : ∀ {O' : Ex} {σ' : Sg} {α' : Nat → Addr} {m' : Str → Option Value} {h₁ h₂ : Heap}, RS prog w K n N W mg mb Yw O' σ' α' env h₀ m' h₁ → (∀ b o, b ∉ wr → h₁.get? b = some o → h₂.get? b = some o) → Fr h₀ env.locals h₂ m' := fun R₁ hk =>
    ⟨R₁.fr.ns.at' fun o q => hk _ o Lw q, fun b o q => hk b o (fun hm => by
      have := R.fr.keep b o q
      exact frw b hm o this) (R₁.fr.keep b o q), R₁.fr.above⟩
  refine codeAny_forLoop_any (fun k s' => ∃ i O' σ' α' m' h' tk, s' = { s2 with heap := h', toks := tk } ∧ 1 ≤ tk ∧ St i h' ∧ RS prog w K n N W mg mb Yw O' σ' α' env h₀ m' h' ∧ Ky (Xo Yw O') h' ∧
      Gr env.locals (fun a => O a ∨ a ∈ wr) s2.heap (fun a => O' a ∨ a ∈ wr) h' ∧ loopV t f (l.drop i) σ' = some oc ∧ i ≤ l.length ∧ k = l.length - i) ?_ l.length
    ⟨0, O, σ, α, m, s2.heap, s2.toks, rfl, ht, hst, R2, ky2, Gr.refl, by simpa using e, Nat.zero_le _, by simp⟩
  rintro k s' ⟨i, O', σ', α', m', h', tk, rfl, ht', hst', R₁, ky₁, G₁, e₁, hi, rfl⟩
  have fin : ∀ (O'' : Ex) (h'' h3 : Heap), Gr env.locals (fun a => O a ∨ a ∈ wr) s2.heap (fun a => O'' a ∨ a ∈ wr) h'' → (∀ b o, b ∉ wr → h''.get? b = some o → h3.get? b = some o) → Gr env.locals O s.heap O'' h3 := fun O'' h'' h3 G hk => by
    refine ⟨fun a y => ?_, fun a y => ?_, fun b o q hb hO => ?_, fun b o q => ?_⟩
    · exact (G.up a (.inl y)).elim id fun q => (yw a (.inr y) q).elim
    · rcases G.new a (.inl y) with (q | q) | q
      · exact .inl q
      · exact .inr (fresh a q)
      · refine .inr ?_
        cases z : s.heap.get? a with
        | none => rfl
        | some o => rw [sub a o z] at q; cases q
    · have hw : b ∉ wr := fun hm => frw b hm o q
      exact hk b o hw (G.keep b o (sub b o q) hb fun z => z.elim hO hw)
    · have hw : b ∉ wr := fun hm => frw b hm o q
      obtain ⟨o', ho'⟩ := G.dom b o (sub b o q)
      exact ⟨o', hk b o' hw ho'⟩
  by_cases hlt : i < l.length
  · refine wpAny_with_toks (n := 1) ht' (W1.item i _ _ _ hlt hst' fun v h₁ tk₁ hMd hk₁ => ?_)
    intro q1
    have q1 : 1 ≤ tk₁ := q1
    refine W1.go i v _ _ _ hMd fun h₂ hP hst₂ hk₂ => ?_
    have hk12 : ∀ b o, b ∉ wr → h'.get? b = some o → h₂.get? b = some o := fun b o hb q => hk₂ b o hb (hk₁ b o hb q)
    have R₂ : RS prog w K n N W mg mb Yw O' σ' α' env h₀ m' h₂ := by
      refine R₁.move (fun b o hb _ q => hk12 b o (fun hm => hb (.inr hm)) q) (fun a o _ y => y) R₁.yl (fun a y => ?_) (fun a y => (R₁.ol a y).1) (nx R₁ hk12)
      by_cases hm : a ∈ wr
      · exact hex _ _ hst₂ a hm
      · obtain ⟨o, ho⟩ := R₁.cx.st.xd a y
        exact ⟨o, hk12 a o hm ho⟩
    have ky₂ : Ky (Xo Yw O') h₂ := hKy _ _ _ _ ky₁ (fun b o hb q => hk12 b o (fun hm => hb (.inl (.inr hm))) q) fun _ _ _ y => y
    have G₂ : Gr env.locals (fun a => O a ∨ a ∈ wr) s2.heap (fun a => O' a ∨ a ∈ wr) h₂ := G₁.trans ⟨fun _ y => y, fun _ y => .inl y, fun b o q _ hO => hk12 b o (fun hm => hO (.inr hm)) q, fun b o q => by
      by_cases hm : b ∈ wr
      · exact hex _ _ hst₂ b hm
      · exact ⟨o, hk12 b o hm q⟩⟩
    have hu : l[i]? = some l[i] := List.getElem?_eq_getElem hlt
    rw [List.drop_eq_getElem_cons hlt] at e₁
    simp only [loopV] at e₁
    split at e₁ <;> try (cases e₁; done)
    rename_i σ1 hs1
    refine tgt_ok ha.hd R₂ (hit i v h₂ _ _ hP ky₂ hu) hs1 fun h₃ m₃ tk₃ hk3 R₃ g₃ => ?_
    have ht3 : 1 ≤ tk₃ := by have : tk₁ ≤ tk₃ := hk3; omega
    have step : ∀ {oc1 : Oc}, f σ1 = some oc1 → SOK prog w K n N W mg mb Yw O' env h₀ { s2 with heap := h₃, toks := tk₃ } (execs body env) oc1 := fun q => hb q R₃
    have G₃ := G₂.trans (Gr.of_gl (O := fun a => O' a ∨ a ∈ wr) g₃ (Fr.at R₃.fr))
    have ky₃ : Ky (Xo Yw O') h₃ := hKy _ _ _ _ ky₂ (fun b o hb' q => g₃ b o (fun z => hb' (.inl (z ▸ R₂.yl))) q) fun _ _ _ y => y
    have fp2 : ∀ b ∈ fp, b ∈ wr ∨ (b ≠ env.locals ∧ ¬ O' b ∧ ∃ o, s.heap.get? b = some o) := fun b hb' => by
      rcases hfp b hb' with y | ⟨y1, y2, o, y3⟩
      · exact .inl y
      · refine .inr ⟨y1, fun z => ?_, o, y3⟩
        rcases G₁.new b (.inl z) with (q | q) | q
        · exact y2 q
        · exact frw b q o y3
        · rw [sub b o y3] at q; cases q
    have st3 : St (i + 1) h₃ := W1.frame _ _ _ hst₂ fun b hb' o q => by
      refine g₃ b o (fun z => ?_) q
      rcases fp2 b hb' with y | y
      · exact Lw (z ▸ y)
      · exact y.1 z
    split at e₁ <;> try (cases e₁; done)
    · rename_i σ2 h4
      refine step h4 ha ht3 fun fl h₅ tk₅ q5 o5 => ?_
      obtain ⟨rfl, O5, α5, m5, G5, R5⟩ := o5
      refine ⟨l.length - (i + 1), by omega, i + 1, O5, σ2, α5, m5, h₅, tk₅, rfl, q5, ?_, R5, ?_, ?_, e₁, hlt, rfl⟩
      · refine W1.frame _ _ _ st3 fun b hb' o q => ?_
        rcases fp2 b hb' with y | y
        · exact G5.keep b o q (fun z => Lw (z ▸ y)) fun z => (R₃.ol b z).1 (.inr y)
        · exact G5.keep b o q y.1 y.2.1
      · refine hKy _ _ _ _ ky₃ (fun b o hb' q => G5.keep b o q (fun z => hb' (.inl (z ▸ R₂.yl))) fun z => hb' (.inr z)) fun a o q y => ?_
        rcases y with y | y
        · exact .inl y
        · rcases G5.new a y with z | z
          · exact .inr z
          · rw [show h₃.get? a = none from z] at q; cases q
      · refine G₃.trans ⟨fun a y => y.elim (fun y => .inl (G5.up a y)) .inr, fun a y => ?_, fun b o q hL hO => G5.keep b o q hL fun z => hO (.inl z), fun b o q => G5.dom b o q⟩
        rcases y with y | y
        · exact (G5.new a y).elim (fun z => .inl (.inl z)) .inr
        · exact .inl (.inr y)
    · rename_i v5 h4
      cases e₁
      refine step h4 ha ht3 fun fl h₅ tk₅ q5 o5 => ?_
      obtain ⟨val, m5, rfl, F5, V5⟩ := o5
      exact hR (.ret val) h₅ tk₅ q5 ⟨val, m5, rfl, F5, V5.mono (fun _ _ _ q => q) fun _ _ _ y => .inl y⟩
  · have hin : i = l.length := by omega
    subst hin
    refine wpAny_with_toks (n := 1) ht' (W1.done _ _ _ hst' fun h₁ tk₁ hk₁ => ?_)
    intro q1
    refine wpAny_execs_nil ?_
    have e2 : oc = .nx σ' := by
      rw [List.drop_length] at e₁
      exact (Option.some.inj e₁).symm
    subst e2
    refine hR .next h₁ tk₁ q1 ⟨rfl, O', α', m', fin O' h' h₁ G₁ hk₁, ?_⟩
    refine R₁.move (fun b o hb _ q => hk₁ b o (fun hm => hb (.inr hm)) q) (fun a o _ y => y.elim (fun y => .inl (.inl y)) .inr) R.yl (fun a y => ?_) (fun a y z => (R₁.ol a y).1 (.inl z)) (nx R₁ hk₁)
    have hm : a ∉ wr := fun hm => by
      rcases y with y | y
      · exact yw a (.inl y) hm
      · exact (R₁.ol a y).1 (.inr hm)
    obtain ⟨o, ho⟩ := R₁.cx.st.xd a (y.elim (fun y => .inl (.inl y)) .inr)
    exact ⟨o, hk₁ a o hm ho⟩
end
end Mine

namespace Mine
section
variable {prog : Program} {w : World} {K : Frag} {n : Nat} {N : Nm} {W : Wd} {X X' Y Y' O O' : Ex} {σ σ' : Sg} {α : Nat → Addr} {env : Env} {h₀ h h' : Heap} {m m' mg mb : Str → Option Value} {s : Shared}
theorem OutOK.pre {h1 : Heap} {O1 : Ex} {oc : Oc} {fl : Flow} (G : Gr env.locals O h O1 h1) (x : OutOK prog w K n N W mg mb Y O1 env h₀ h1 oc fl h') : OutOK prog w K n N W mg mb Y O env h₀ h oc fl h' := by
  cases oc with
  | nx σ' => obtain ⟨a, O', α', m', g, r⟩ := x; exact ⟨a, O', α', m', G.trans g, r⟩
  | rt v => exact x
theorem x_asgPop {j i : Nat} {pj pi pa pc p : Pos} {x o o' : V} (R : RS prog w K n N W mg mb Y O σ α env h₀ m s.heap) (hp : (pa.endLine == pc.line) = true) (ho : getO σ i = some o) (hs : popV o = some (x, o')) (hst : storeF (setOw σ i o') j x = some σ') :
    SOK prog w K n N W mg mb Y O env h₀ s (exec (S.py N (.asgPop j pj i pi pa pc p)) env) (.nx σ') := by
  intro A Q E ha ht kk
  refine wpAny_Assign_Name ?_ rfl
  refine pop_ok R hp ho hs fun xv h1 R1 G1 v1 => ?_
  refine store_ok R1 hst v1 fun h2 m2 R2 g2 => ?_
  exact kk .next h2 _ (by show 1 ≤ s.toks + 1; omega) ⟨rfl, _, _, _, G1.trans (R1.gr R2.fr g2), R2⟩
theorem x_pop {i : Nat} {pi pa pc p : Pos} {x o o' : V} (R : RS prog w K n N W mg mb Y O σ α env h₀ m s.heap) (hp : (pa.endLine == pc.line) = true) (ho : getO σ i = some o) (hs : popV o = some (x, o')) (hf : flat x = true) :
    SOK prog w K n N W mg mb Y O env h₀ s (exec (S.py N (.pop i pi pa pc p)) env) (.nx (setOw σ i o')) := by
  intro A Q E ha ht kk
  refine wpAny_Expr ?_ (by unfold interactive; first | rfl | (rw [R.cx.ek]; rfl)) rfl
  refine pop_ok R hp ho hs fun xv h1 R1 G1 v1 => ?_
  have k := kk .next h1 s.toks ht ⟨rfl, _, _, _, G1, R1⟩
  cases x <;> simp [flat] at hf
  · cases v1; exact k
  · cases v1; exact k
  · obtain ⟨t, rfl⟩ := v1; exact k
  · obtain ⟨t, rfl⟩ := v1; exact k
theorem x_aug {i : Nat} {op : Operator} {e : E} {px p : Pos} {a b c : Int} (R : RS prog w K n N W mg mb Y O σ α env h₀ m s.heap) (hi : locV (frz σ) i = some (.int a)) (he : evA W σ e = some (.int b)) (ho : (op = .Add ∧ c = a + b) ∨ (op = .Sub ∧ c = a - b)) (hst : storeF σ i (.int c) = some σ') :
    SOK prog w K n N W mg mb Y O env h₀ s (exec (S.py N (.aug i op e px p)) env) (.nx σ') := by
  intro A Q E ha ht kk
  refine wpAny_AugAssign_Name ?_
  have hloc : wpAny (model prog w) A (loadName env (N.l i)) (fun old s₁ => ∃ t, old = .int a t ∧ s₁ = s) E s := by
    obtain ⟨hd, b⟩ := R.cx.loc i _ hi
    rcases b with ⟨hk, val, hm, t, rfl⟩ | ⟨hk, c, val, hc, hX, hcell, t, rfl⟩
    · exact wpAny_loadName_local R.cx.ek hk R.fr.ns hm ⟨t, rfl, rfl⟩
    · exact wpAny_loadName_cell R.cx.ek hk hc hcell ⟨t, rfl, rfl⟩
  refine wpAny_mono hloc (fun old s₁ h₁ => ?_) fun _ _ y => y
  obtain ⟨t, rfl, rfl⟩ := h₁
  refine evA_ok R he ha ht fun bv h1 t1 q1 F1 g1 v1 => ?_
  obtain ⟨u, rfl⟩ := v1
  have fin : ∀ tt, wpAny (model prog w) A (storeName env (N.l i) (.int c tt)) (fun _ => Q .next) E { s₁ with heap := h1, toks := t1 + 1 } := fun tt => by
    refine store_ok (s := { s₁ with heap := h1, toks := t1 + 1 }) (R.gl F1 g1) hst ⟨tt, rfl⟩ fun h2 m2 R2 g2 => ?_
    exact kk .next h2 _ (by show 1 ≤ t1 + 1 + 1; omega) ⟨rfl, _, _, _, R.gr R2.fr (g1.trans g2), R2⟩
  rcases ho with ⟨rfl, rfl⟩ | ⟨rfl, rfl⟩
  · exact wpAny_iadd_int (fin _)
  · exact PySem.AutoIntOps.isub_0 (show (Made.int _).post _ _ from fin _)
theorem fold_expr (e : E) (x : Value) : foldedSetIterable (e.py N) env x = pure x := by
  cases e <;> rfl
theorem VRs.gets {l : List V} {xs : List Value} {i : Nat} {u : V} {v : Value} (x : VRs prog w X h l xs) (hi : l[i]? = some u) (hv : (List.toArray xs)[i]? = some v) : VR prog w X h u v := by
  obtain ⟨y, hy, hr⟩ := x.get hi
  have : (List.toArray xs)[i]? = some y := by simpa using hy
  rw [this] at hv; cases hv; exact hr
theorem ItR.of {t : Tg} {u : V} {v : Value} (x : VR prog w X h u v) : ItR prog w t X h u v := by
  cases t with
  | nm i p => exact x
  | tp l k p =>
    rintro vs rfl
    obtain ⟨T, xs, rfl, _, ht, hl⟩ := x
    exact ⟨T, xs, rfl, ht.l, hl⟩
theorem letGo_list {t : Tg} {I l : Addr} {i : Nat} {v : Value} {Q : Unit → Shared → Prop} {E : Value → Shared → Prop} {A : Around} (hit : s.heap.IsListIter I l i) (h : Q () s) : wpAny (model prog w) A (letOwnedTupleGo (t.py N) (.ref I) v) Q E s := by
  cases t with
  | nm i p => exact wpAny_pure h
  | tp l k p => 
    cases v <;> first
      | exact wpAny_letOwnedTupleGo_listiter hit h
      | exact wpAny_pure h
noncomputable abbrev BOK (prog : Program) (w : World) (K : Frag) (n : Nat) (N : Nm) (W : Wd) (mg mb : Str → Option Value) (env : Env) (h₀ : Heap) (f : Sg → Option Oc) (body : List PS) : Prop :=
  ∀ {Y O : Ex} {σ : Sg} {α : Nat → Addr} {m : Str → Option Value} {s : Shared} {oc : Oc}, f σ = some oc → RS prog w K n N W mg mb Y O σ α env h₀ m s.heap → SOK prog w K n N W mg mb Y O env h₀ s (execs body env) oc
theorem RS.nX (R : RS prog w K n N W mg mb Y O σ α env h₀ m h) {a : Addr} (hX : ¬ Xo Y O a) : a ≠ env.locals ∧ ¬ O a := ⟨fun q => hX (.inl (q ▸ R.yl)), fun q => hX (.inr q)⟩
theorem get?_size {h : Heap} : h.get? h.objs.size = none := by
  cases q : h.get? h.objs.size with
  | none => rfl
  | some o => exact absurd (Heap.lt_size q) (Nat.lt_irrefl _)
theorem x_for {t : Tg} {e : E} {body : Ss} {f : Sg → Option Oc} {p : Pos} {v : V} {l : List V} {oc : Oc} (R : RS prog w K n N W mg mb Y O σ α env h₀ m s.heap) (he : evA W σ e = some v) (hl : itV v = some l) (hd : (isD v && isTg2 t) = false) (hx : loopV t f l σ = some oc) (hb : BOK prog w K n N W mg mb env h₀ f (body.py N)) :
    SOK prog w K n N W mg mb Y O env h₀ s (exec (S.py N (.fr t e body p)) env) oc := by
  intro A Q E ha ht kk
  refine wpAny_For ?_ (fold_expr e)
  refine evA_ok R he ha ht fun xv h1 t1 q1 F1 g1 v1 => ?_
  have R1 := R.gl F1 g1
  have G1 := R.gr F1 g1
  have up : ∀ o, Sub h1 (h1.push o) := fun o b o' e => Heap.get?_push_of_some _ e
  unfold itV at hl
  split at hl
  · rename_i l'
    split at hl <;> cases hl
    obtain ⟨a, xs, rfl, hX, ho, hv⟩ := v1
    have hax : ∃ o, h1.get? a = some o := let ⟨nn, q⟩ := ho; ⟨_, q⟩
    have hlt : a < h1.objs.size := by obtain ⟨o, q⟩ := hax; exact Heap.lt_size q
    have hne : a ≠ h1.objs.size := Nat.ne_of_lt hlt
    refine wpAny_pyIter_list ho.l ?_
    have KT := KTurns.ofWalks (target := t.py N) (Walks.list (prog := prog) (w := w) (A := A) ha.hd h1.objs.size a hne (List.toArray xs)) (fun i v s Q E st q => letGo_list st.1 q)
    rw [show (List.toArray xs).size = l.length from by rw [List.size_toArray, hv.length]] at KT
    refine loop_ok (s := { s with heap := h1, toks := t1 }) (f := f) ha KT (fun X h => VRs prog w X h l xs) (fun X X' h h' a b c => a.mono b c) (fun i v h X u hP hk hi => ItR.of (hk.gets hi hP)) ?_ hb R1 (up _) ?_ hv ?_ ?_ q1 hx fun fl h' tk q o => kk fl h' tk q (o.pre G1)
    · rintro i h ⟨⟨o, q, _⟩, _⟩ b hb
      rw [List.mem_singleton.mp hb]; exact ⟨o, q⟩
    · exact ⟨⟨_, Heap.get?_push_size _ rfl, rfl, rfl⟩, ho.l.push _⟩
    · intro b hb; rw [List.mem_singleton.mp hb]; exact get?_size
    · intro b hb
      rcases List.mem_cons.mp hb with rfl | hb
      · exact .inl (List.mem_singleton.mpr rfl)
      · rw [List.mem_singleton.mp hb]
        exact .inr ⟨(R1.nX hX).1, (R1.nX hX).2, hax⟩
  · rename_i l'
    split at hl <;> cases hl
    obtain ⟨a, xs, rfl, hX, ho, hv⟩ := v1
    have hax : ∃ o, h1.get? a = some o := let ⟨nn, q⟩ := ho; ⟨_, q⟩
    have hlt : a < h1.objs.size := by obtain ⟨o, q⟩ := hax; exact Heap.lt_size q
    have hne : a ≠ h1.objs.size := Nat.ne_of_lt hlt
    refine wpAny_pyIter_tuple ho.l ?_
    have KT := KTurns.ofWalks (target := t.py N) (Walks.tuple (prog := prog) (w := w) (A := A) ha.hd h1.objs.size a hne (List.toArray xs)) (fun i v s Q E st q => letGo_tupleiter st.1 q)
    rw [show (List.toArray xs).size = l.length from by rw [List.size_toArray, hv.length]] at KT
    refine loop_ok (s := { s with heap := h1, toks := t1 }) (f := f) ha KT (fun X h => VRs prog w X h l xs) (fun X X' h h' a b c => a.mono b c) (fun i v h X u hP hk hi => ItR.of (hk.gets hi hP)) ?_ hb R1 (up _) ?_ hv ?_ ?_ q1 hx fun fl h' tk q o => kk fl h' tk q (o.pre G1)
    · rintro i h ⟨⟨o, q, _⟩, _⟩ b hb
      rw [List.mem_singleton.mp hb]; exact ⟨o, q⟩
    · exact ⟨⟨_, Heap.get?_push_size _ rfl, rfl, rfl⟩, Heap.IsTuple.at ho.l fun o e => up _ _ o e⟩
    · intro b hb; rw [List.mem_singleton.mp hb]; exact get?_size
    · intro b hb
      rcases List.mem_cons.mp hb with rfl | hb
      · exact .inl (List.mem_singleton.mpr rfl)
      · rw [List.mem_singleton.mp hb]
        exact .inr ⟨(R1.nX hX).1, (R1.nX hX).2, hax⟩
  · rename_i ks vs
    split at hl <;> cases hl
    obtain ⟨a, xs, rfl, hX, ho, hlen, hm, hv⟩ := v1
    obtain ⟨ep, hat⟩ := ho.dictAt
    have hlt := hat.lt_size
    have hax : ∃ o, h1.get? a = some o := let ⟨o, es, q, _⟩ := hat; ⟨_, q⟩
    have hne : a ≠ h1.objs.size := Nat.ne_of_lt hlt
    have htg : isTg2 t = false := by simpa [isD] using hd
    refine wpAny_pyIter_dict hm hat ?_
    have KT := KTurns.ofWalks (target := t.py N) (Walks.dictKeys (knd := PySem.intKind prog w) (A := A) ha.hd h1.objs.size a hne (ks.zip xs) ep) (fun i v s Q E st q => by
      cases t with
      | nm i p => exact wpAny_pure q
      | tp l k p => cases htg)
    have hz : (ks.zip xs).length = (ks.map V.int).length := by simp; omega
    rw [hz] at KT
    refine loop_ok (s := { s with heap := h1, toks := t1 }) (f := f) ha KT (fun _ _ => True) (fun X X' h h' a b c => trivial) (fun i v h X u hP hk hi => ItR.of ?_) ?_ hb R1 (up _) ?_ trivial ?_ ?_ q1 hx fun fl h' tk q o => kk fl h' tk q (o.pre G1)
    · obtain ⟨k, x, e1, e2⟩ := hP
      obtain ⟨tt, rfl⟩ := Value.isInt_shape e2
      rw [List.getElem?_map] at hi
      have := List.getElem?_zip_eq_some.mp e1
      rw [this.1] at hi
      cases hi
      exact ⟨tt, rfl⟩
    · rintro i h ⟨⟨o, q, _⟩, _⟩ b hb
      rw [List.mem_singleton.mp hb]; exact ⟨o, q⟩
    · rw [← hz]
      exact ⟨⟨_, Heap.get?_push_size _ rfl, rfl, rfl⟩, hat.push _⟩
    · intro b hb; rw [List.mem_singleton.mp hb]; exact get?_size
    · intro b hb
      rcases List.mem_cons.mp hb with rfl | hb
      · exact .inl (List.mem_singleton.mpr rfl)
      · rw [List.mem_singleton.mp hb]
        exact .inr ⟨(R1.nX hX).1, (R1.nX hX).2, hax⟩
  · cases hl
theorem numd_get : ∀ (l : List V) (k i : Nat) (u : V), (numd k l)[i]? = some u → ∃ x, l[i]? = some x ∧ u = .tup [.int ((k + i : Nat) : Int), x]
  | [], k, i, u, h => by simp [numd] at h
  | v :: l, k, 0, u, h => by simp [numd] at h; exact ⟨v, rfl, by simpa using h.symm⟩
  | v :: l, k, i + 1, u, h => by
    obtain ⟨x, a, b⟩ := numd_get l (k + 1) i u (by simpa [numd] using h)
    exact ⟨x, by simpa using a, by rw [b]; congr 4; omega⟩
theorem numd_len : ∀ (l : List V) (k : Nat), (numd k l).length = l.length
  | [], k => rfl
  | v :: l, k => by simp [numd, numd_len l]
theorem x_forE {t : Tg} {e : E} {body : Ss} {f : Sg → Option Oc} {pf pc p : Pos} {l : List V} {oc : Oc} (R : RS prog w K n N W mg mb Y O σ α env h₀ m s.heap) (he : evA W σ e = some (.lst l)) (hd : isTg2 t = true) (hW : W.b 2 = true) (hx : loopV t f (numd 0 l) σ = some oc) (hb : BOK prog w K n N W mg mb env h₀ f (body.py N)) :
    SOK prog w K n N W mg mb Y O env h₀ s (exec (S.py N (.frE t e pf pc body p)) env) oc := by
  intro A Q E ha ht kk
  cases t with
  | nm i p => cases hd
  | tp tl tk0 tp0 =>
  refine wpAny_For ?_ (fun _ => rfl)
  refine Call_ (bname_ok (i := 2) R.cx hW ?_) rfl
  refine PyProof.Rows.callWith_type1 ?_ (star_one e []) rfl
  rw [star_one]
  refine spliced_cons (evA_ok R he ha ht fun xv h1 t1 q1 F1 g1 v1 => spliced_nil ?_)
  have R1 := R.gl F1 g1
  have G1 := R.gr F1 g1
  obtain ⟨a, xs, rfl, hX, ho, hv⟩ := v1
  have hax : ∃ o, h1.get? a = some o := let ⟨nn, q⟩ := ho; ⟨_, q⟩
  have hlt : a < h1.objs.size := by obtain ⟨o, q⟩ := hax; exact Heap.lt_size q
  refine call_enumerate_list ho.l fun h2 en it sz up => ?_
  refine wpAny_pyIter_enum en ?_
  have KT := KTurns.ofWalksU (elts := tl.map fun x => .Name (N.l x.1) x.2) (k := tk0) (pos := tp0) (WalksT.enumerate (prog := prog) (w := w) (A := A) ha.hd (h1.objs.size + 1) h1.objs.size a (Nat.succ_ne_self _) (Nat.ne_of_lt (Nat.lt_succ_of_lt hlt)) (Nat.ne_of_lt hlt) (List.toArray xs)).toU
  rw [show (List.toArray xs).size = (numd 0 l).length from by rw [List.size_toArray, hv.length, numd_len]] at KT
  have no1 : h1.get? (h1.objs.size + 1) = none := by
    cases q : h1.get? (h1.objs.size + 1) with
    | none => rfl
    | some o => exact absurd (Heap.lt_size q) (Nat.not_lt.mpr (Nat.le_succ _))
  refine loop_ok (t := .tp tl tk0 tp0) (s := { s with heap := h1, toks := t1 }) (f := f) ha KT (fun X h => VRs prog w X h l xs) (fun X X' h h' a b c => a.mono b c) (fun i v h X u hP hk hi => ?_) ?_ hb R1 up ?_ hv ?_ ?_ q1 hx fun fl h' tk q o => kk fl h' tk q (o.pre G1)
  · obtain ⟨T, vals, rfl, ⟨tt, x, hx1, rfl⟩, hT⟩ := hP
    obtain ⟨x', hx', rfl⟩ := numd_get l 0 i u hi
    intro vs hvs
    cases hvs
    exact ⟨T, [.int i tt, x], rfl, hT, _, _, rfl, ⟨tt, by simp⟩, _, _, rfl, hk.gets hx' hx1, rfl⟩
  · rintro i h ⟨⟨old, q⟩, ⟨o', q', _⟩, _⟩ b hb
    rcases List.mem_cons.mp hb with rfl | hb
    · exact ⟨_, q⟩
    · rw [List.mem_singleton.mp hb]; exact ⟨_, q'⟩
  · exact ⟨⟨_, en⟩, it, Heap.IsList.at ho.l fun o e => up _ o e⟩
  · intro b hb
    rcases List.mem_cons.mp hb with rfl | hb
    · exact no1
    · rw [List.mem_singleton.mp hb]; exact get?_size
  · intro b hb
    rcases List.mem_cons.mp hb with rfl | hb
    · exact .inl (List.mem_cons_self ..)
    · rcases List.mem_cons.mp hb with rfl | hb
      · exact .inl (List.mem_cons_of_mem _ (List.mem_singleton.mpr rfl))
      · rw [List.mem_singleton.mp hb]
        exact .inr ⟨(R1.nX hX).1, (R1.nX hX).2, hax⟩
theorem x_forR {t : Tg} {e : E} {body : Ss} {f : Sg → Option Oc} {pf pc p : Pos} {k : Int} {oc : Oc} (R : RS prog w K n N W mg mb Y O σ α env h₀ m s.heap) (he : evA W σ e = some (.int k)) (hk : 0 ≤ k ∧ k ≤ 1000) (hd : isTg2 t = false) (hW : W.b 3 = true) (hx : loopV t f ((List.range k.toNat).map fun (k : Nat) => V.int (k : Int)) σ = some oc) (hb : BOK prog w K n N W mg mb env h₀ f (body.py N)) :
    SOK prog w K n N W mg mb Y O env h₀ s (exec (S.py N (.frR t e pf pc body p)) env) oc := by
  intro A Q E ha ht kk
  refine wpAny_For ?_ (fun _ => rfl)
  refine Call_ (bname_ok (i := 3) R.cx hW ?_) rfl
  refine PyProof.Rows.callWith_type1 ?_ (star_one e []) rfl
  rw [star_one]
  refine spliced_cons (evA_ok R he ha ht fun xv h1 t1 q1 F1 g1 v1 => spliced_nil ?_)
  have R1 := R.gl F1 g1
  have G1 := R.gr F1 g1
  obtain ⟨tt, rfl⟩ := v1
  refine call_range_1 ?_
  refine wpAny_pyIter_range (IsRange.new ..) (small_one (by decide) (by decide) (by omega) (by omega)) ?_
  have up : ∀ o o', Sub h1 ((h1.push o).push o') := fun o o' b _ e => Heap.get?_push_of_some _ (Heap.get?_push_of_some _ e)
  have KT := KTurns.ofWalks (target := t.py N) (Walks.range (prog := prog) (w := w) (A := A) ha.hd (h1.objs.size + 1) 0 1 k.toNat) (fun i v s Q E st q => by
      cases t with
      | nm i p => exact wpAny_pure q
      | tp l k p => cases hd)
  rw [show k.toNat = ((List.range k.toNat).map fun (k : Nat) => V.int (k : Int)).length from by simp] at KT
  have hsz : Builtin.Range.rangeSize 0 k 1 = (k.toNat : Int) := by rw [rangeSize_one]; split <;> omega
  have h2sz : ∀ o : Obj, (h1.push o).objs.size = h1.objs.size + 1 := fun o => Heap.size_push ..
  have no1 : h1.get? (h1.objs.size + 1) = none := by
    cases q : h1.get? (h1.objs.size + 1) with
    | none => rfl
    | some o => exact absurd (Heap.lt_size q) (Nat.not_lt.mpr (Nat.le_succ _))
  show codeAny (model prog w) A (.forLoop (t.py N) (.ref (Heap.push h1 _).objs.size) (body.py N) [] env) _ _
  rw [h2sz]
  refine loop_ok (s := { s with heap := h1, toks := t1 }) (f := f) ha KT (fun _ _ => True) (fun X X' h h' a b c => trivial) (fun i v h X u hP hk hi => ItR.of ?_) ?_ hb R1 (up _ _) ?_ trivial ?_ ?_ (by show 1 ≤ t1 + 1 + 1; omega) hx fun fl h' tk q o => kk fl h' tk q (o.pre G1)
  · obtain ⟨t2, rfl⟩ := hP
    rw [List.getElem?_map, Option.map_eq_some_iff] at hi
    obtain ⟨j, hj, rfl⟩ := hi
    rw [List.getElem?_eq_some_iff] at hj
    obtain ⟨hj1, hj2⟩ := hj
    rw [List.getElem_range] at hj2
    subst hj2
    exact ⟨t2, by simp⟩
  · rintro i h q b hb
    rw [List.mem_singleton.mp hb]
    exact ⟨_, q⟩
  · have := Heap.get?_push_size (h1.push { cls := .type "range", data := .fields #[.int 0 t1, .int k tt, .int 1 (t1 + 1)] }) (o := { cls := .type "range_iterator", data := .fields #[rawInt 0, rawInt (Builtin.Range.rangeSize 0 k 1), rawInt 1] }) rfl
    rw [h2sz] at this
    show Heap.get? _ _ = some _
    rw [this, hsz]
    simp
  · intro b hb; rw [List.mem_singleton.mp hb]; exact no1
  · intro b hb
    exact .inl hb
theorem x_whl {c : E} {body : Ss} {f : Sg → Option Oc} {p : Pos} {g : Sg → Option Bool} {oc : Oc} {k : Nat} (R : RS prog w K n N W mg mb Y O σ α env h₀ m s.heap) (hg : ∀ σ, g σ = tv W (full σ) c) (hx : loopW g f k σ = some oc) (hb : BOK prog w K n N W mg mb env h₀ f (body.py N)) :
    SOK prog w K n N W mg mb Y O env h₀ s (exec (S.py N (.whl c body p)) env) oc := by
  intro A Q E ha ht kk
  refine wpAny_While ?_
  refine codeAny_whileLoop (fun k s' => ∃ O' σ' α' m' h' tk, s' = { s with heap := h', toks := tk } ∧ 1 ≤ tk ∧ Gr env.locals O s.heap O' h' ∧ RS prog w K n N W mg mb Y O' σ' α' env h₀ m' h' ∧ loopW g f k σ' = some oc) ?_ k
    ⟨O, σ, α, m, s.heap, s.toks, rfl, ht, Gr.refl, R, hx⟩
  rintro k s' ⟨O', σ', α', m', h', tk, rfl, ht', G', R', hx'⟩
  cases k with
  | zero => cases hx'
  | succ k =>
    simp only [loopW, hg] at hx'
    split at hx' <;> try (cases hx'; done)
    · rename_i hc
      refine tv_ok c hc R'.full ha ht' fun h1 t1 q1 F1 g1 => ?_
      simp only [if_true]
      have R1 := R'.gl F1 g1
      have G1 := G'.trans (R'.gr F1 g1)
      split at hx' <;> try (cases hx'; done)
      · rename_i σ2 hf
        refine hb hf R1 ha q1 fun fl h2 t2 q2 o2 => ?_
        obtain ⟨rfl, O2, α2, m2, G2, R2⟩ := o2
        exact ⟨k, Nat.lt_succ_self _, O2, σ2, α2, m2, h2, t2, rfl, q2, G1.trans G2, R2, hx'⟩
      · rename_i v2 hf
        cases hx'
        refine hb hf R1 ha q1 fun fl h2 t2 q2 o2 => ?_
        obtain ⟨val, m2, rfl, F2, V2⟩ := o2
        exact kk _ h2 t2 q2 ⟨val, m2, rfl, F2, V2⟩
    · rename_i hc
      cases hx'
      refine tv_ok c hc R'.full ha ht' fun h1 t1 q1 F1 g1 => ?_
      simp only [Bool.false_eq_true, if_false]
      exact wpAny_execs_nil (kk .next h1 t1 q1 ⟨rfl, _, _, _, G'.trans (R'.gr F1 g1), R'.gl F1 g1⟩)
end
end Mine

namespace Mine
mutual
/-- what the model asks of tuple assigns, by its own words -/
noncomputable def okS (N : Nm) (env : Env) : S → Prop
  | .asgT l k tp e _ => swappedStores [.Tuple (l.map fun x => .Name (N.l x.1) x.2) k tp] (e.py N) env = pure none
  | .asgX l k tp e _ => swappedStores [.Tuple (l.map fun x => .Name (N.l x.1) x.2) k tp] (e.py N) env = pure (some (l.map fun x => N.l x.1))
  | .ownT l k1 p1 k2 p2 _ => l.length ≤ 8 ∧ swappedStores [.Tuple (l.map fun x => .Name (N.l x.1) x.2.2.1) k1 p1] (.Tuple (l.map fun x => x.2.1.py x.2.2.2) k2 p2) env = pure (some (l.map fun x => N.l x.1))
  | .ifs _ a b _ => okSs N env a ∧ okSs N env b
  | .fr _ _ b _ => okSs N env b
  | .frE _ _ _ _ b _ => okSs N env b
  | .frR _ _ _ _ b _ => okSs N env b
  | .whl _ b _ => okSs N env b
  | _ => True
noncomputable def okSs (N : Nm) (env : Env) : Ss → Prop
  | .nil => True
  | .cons s l => okS N env s ∧ okSs N env l
end
section
variable {prog : Program} {w : World} {K : Frag} {n : Nat} {N : Nm} {W : Wd} {env : Env} {h₀ : Heap} {mg mb : Str → Option Value}
theorem omap {o : Option Sg} {oc : Oc} (h : o.map Oc.nx = some oc) : ∃ σ, o = some σ ∧ oc = .nx σ := by
  cases o with
  | none => cases h
  | some σ => cases h; exact ⟨σ, rfl, rfl⟩
mutual
theorem ex_ok : ∀ (st : S) {Y O : Ex} {σ : Sg} {α : Nat → Addr} {m : Str → Option Value} {s : Shared} {oc : Oc}, ex W st σ = some oc → okS N env st → RS prog w K n N W mg mb Y O σ α env h₀ m s.heap → SOK prog w K n N W mg mb Y O env h₀ s (exec (st.py N) env) oc
  | .asg i e px p, Y, O, σ, α, m, s, oc, e1, ok, R => by
    simp only [ex] at e1
    split at e1 <;> try (cases e1; done)
    rename_i v hv
    obtain ⟨σ', h, rfl⟩ := omap e1
    exact x_asg R hv h
  | .asgT l k tp e p, Y, O, σ, α, m, s, oc, e1, ok, R => by
    simp only [ex] at e1
    split at e1 <;> try (cases e1; done)
    · rename_i v hv
      obtain ⟨σ', h, rfl⟩ := omap e1
      exact x_asgT R hv (.inl rfl) h ok
    · rename_i v hv
      obtain ⟨σ', h, rfl⟩ := omap e1
      exact x_asgT R hv (.inr rfl) h ok
  | .asgX l k tp e p, Y, O, σ, α, m, s, oc, e1, ok, R => by
    simp only [ex] at e1
    split at e1 <;> try (cases e1; done)
    rename_i v hv
    obtain ⟨σ', h, rfl⟩ := omap e1
    exact x_asgX R hv h ok
  | .own1 i d px pv p, Y, O, σ, α, m, s, oc, e1, ok, R => by
    simp only [ex] at e1
    obtain ⟨σ', h, rfl⟩ := omap e1
    exact x_own1 R h
  | .ownT l k1 p1 k2 p2 p, Y, O, σ, α, m, s, oc, e1, ok, R => by
    simp only [ex] at e1
    obtain ⟨σ', h, rfl⟩ := omap e1
    exact x_ownT R h ok.1 ok.2
  | .setI i ke ve pi ps p, Y, O, σ, α, m, s, oc, e1, ok, R => by
    simp only [ex] at e1
    split at e1 <;> try (cases e1; done)
    rename_i x hx
    split at e1 <;> try (cases e1; done)
    rename_i o ho
    split at e1 <;> try (cases e1; done)
    rename_i k hk
    split at e1 <;> cases e1
    rename_i o' hs
    exact x_setI R hx ho hk hs
  | .app i e pi pa pc p, Y, O, σ, α, m, s, oc, e1, ok, R => by
    simp only [ex] at e1
    split at e1 <;> try (cases e1; done)
    rename_i hp
    split at e1 <;> try (cases e1; done)
    rename_i o ho
    split at e1 <;> try (cases e1; done)
    rename_i x hx
    split at e1 <;> cases e1
    rename_i o' hs
    exact x_app R hp ho hx hs
  | .pop i pi pa pc p, Y, O, σ, α, m, s, oc, e1, ok, R => by
    simp only [ex] at e1
    split at e1 <;> try (cases e1; done)
    rename_i hp
    split at e1 <;> try (cases e1; done)
    rename_i o ho
    split at e1 <;> try (cases e1; done)
    rename_i x o' hs
    split at e1 <;> cases e1
    rename_i hf
    exact x_pop R hp ho hs hf
  | .asgPop j pj i pi pa pc p, Y, O, σ, α, m, s, oc, e1, ok, R => by
    simp only [ex] at e1
    split at e1 <;> try (cases e1; done)
    rename_i hp
    split at e1 <;> try (cases e1; done)
    rename_i o ho
    split at e1 <;> try (cases e1; done)
    rename_i x o' hs
    obtain ⟨σ', h, rfl⟩ := omap e1
    exact x_asgPop R hp ho hs h
  | .aug i op e px p, Y, O, σ, α, m, s, oc, e1, ok, R => by
    simp only [ex] at e1
    split at e1 <;> try (cases e1; done)
    rename_i a ha
    split at e1 <;> try (cases e1; done)
    rename_i b hb
    split at e1 <;> try (cases e1; done)
    · obtain ⟨σ', h, rfl⟩ := omap e1
      exact x_aug R ha hb (.inl ⟨rfl, rfl⟩) h
    · obtain ⟨σ', h, rfl⟩ := omap e1
      exact x_aug R ha hb (.inr ⟨rfl, rfl⟩) h
  | .ifs c a b p, Y, O, σ, α, m, s, oc, e1, ok, R => by
    simp only [ex] at e1
    intro ha ht kk
    refine wpAny_If ?_
    split at e1 <;> try (cases e1; done)
    · rename_i hc
      refine tv_ok c hc R.full ha ht fun h1 t1 q1 F1 g1 => ?_
      simp only [if_true]
      exact exs_ok a e1 ok.1 (R.gl F1 g1) ha q1 fun fl h' tk q o => kk fl h' tk q (o.pre (R.gr F1 g1))
    · rename_i hc
      refine tv_ok c hc R.full ha ht fun h1 t1 q1 F1 g1 => ?_
      simp only [Bool.false_eq_true, if_false]
      exact exs_ok b e1 ok.2 (R.gl F1 g1) ha q1 fun fl h' tk q o => kk fl h' tk q (o.pre (R.gr F1 g1))
  | .fr t e body p, Y, O, σ, α, m, s, oc, e1, ok, R => by
    simp only [ex] at e1
    split at e1 <;> try (cases e1; done)
    rename_i v hv
    split at e1 <;> try (cases e1; done)
    rename_i l hl
    split at e1 <;> try (cases e1; done)
    rename_i hd
    exact x_for (f := exs W body) R hv hl (by simpa using hd) e1 fun h R' => exs_ok body h ok R'
  | .frE t e pf pc body p, Y, O, σ, α, m, s, oc, e1, ok, R => by
    simp only [ex] at e1
    split at e1 <;> try (cases e1; done)
    rename_i l hl
    split at e1 <;> try (cases e1; done)
    rename_i hd
    rw [Bool.and_eq_true] at hd
    exact x_forE (f := exs W body) R hl hd.1 hd.2 e1 fun h R' => exs_ok body h ok R'
  | .frR t e pf pc body p, Y, O, σ, α, m, s, oc, e1, ok, R => by
    simp only [ex] at e1
    split at e1 <;> try (cases e1; done)
    rename_i k hk
    split at e1 <;> try (cases e1; done)
    rename_i hd
    exact x_forR (f := exs W body) R hk ⟨hd.1, hd.2.1⟩ hd.2.2.2 hd.2.2.1 e1 fun h R' => exs_ok body h ok R'
  | .whl c body p, Y, O, σ, α, m, s, oc, e1, ok, R => by
    simp only [ex] at e1
    exact x_whl (f := exs W body) R (fun _ => rfl) e1 fun h R' => exs_ok body h ok R'
  | .ret e p, Y, O, σ, α, m, s, oc, e1, ok, R => by
    simp only [ex, Option.map_eq_some_iff] at e1
    obtain ⟨v, hv, rfl⟩ := e1
    intro ha ht kk
    exact wpAny_Return_some (ev_ok e hv R.full ha ht fun val h1 t1 q1 F1 g1 v1 => kk (.ret val) h1 t1 q1 ⟨val, m, rfl, F1, v1⟩)
theorem exs_ok : ∀ (l : Ss) {Y O : Ex} {σ : Sg} {α : Nat → Addr} {m : Str → Option Value} {s : Shared} {oc : Oc}, exs W l σ = some oc → okSs N env l → RS prog w K n N W mg mb Y O σ α env h₀ m s.heap → SOK prog w K n N W mg mb Y O env h₀ s (execs (l.py N) env) oc
  | .nil, Y, O, σ, α, m, s, oc, e1, ok, R => by
    simp only [exs, Option.some.injEq] at e1
    subst e1
    intro ha ht kk
    exact wpAny_execs_nil (kk .next s.heap s.toks ht ⟨rfl, O, α, m, Gr.refl, R⟩)
  | .cons st l, Y, O, σ, α, m, s, oc, e1, ok, R => by
    simp only [exs] at e1
    intro ha ht kk
    split at e1 <;> try (cases e1; done)
    · rename_i σ' h1
      refine wpAny_execs_cons (ex_ok st h1 ok.1 R ha ht fun fl h' tk q o => ?_)
      obtain ⟨rfl, O', α', m', G', R'⟩ := o
      exact exs_ok l e1 ok.2 R' ha q fun fl h2 t2 q2 o2 => kk fl h2 t2 q2 (o2.pre G')
    · rename_i v h1
      cases e1
      refine wpAny_execs_cons (ex_ok st h1 ok.1 R ha ht fun fl h' tk q o => ?_)
      obtain ⟨val, m', rfl, F', V'⟩ := o
      exact kk (.ret val) h' tk q ⟨val, m', rfl, F', V'⟩
end
end
end Mine

namespace Mine
structure Fd where
  name : Str
  params : Arguments
  body : Ss
  scope : Scope
  ls : List Str
  np : Nat
  gs : List Nat
  fs : List Nat
  bs : List Nat
noncomputable def cut (W : Wd) (F : Fd) : Wd := { g := fun i => if F.gs.contains i then W.g i else none, f := fun i xs => if F.fs.contains i then W.f i xs else none, b := fun i => F.bs.contains i && W.b i }
noncomputable def runB (W : Wd) (F : Fd) (xs : List V) : Option V := if xs.length = F.np then match exs (cut W F) F.body (xs.map .fr ++ List.replicate (F.ls.length - F.np) .un) with
    | some (.rt v) => some v
    | some (.nx _) => some .none
    | none => none
  else none
noncomputable def nmOf (gN fN : Nat → Str) (F : Fd) : Nm := ⟨fun i => (F.ls[i]?).getD (Str.ofString ""), gN, fN⟩
noncomputable def fdChk (gN fN : Nat → Str) (F : Fd) : Bool :=
  decide F.ls.Nodup && (F.ls.all fun x => !(x == ("__debug__" : Str)) && decide (F.scope.names.lookup x = some .local)) && (F.gs.all fun i => !(gN i == ("__debug__" : Str)) && decide (F.scope.names.lookup (gN i) = some .globalImplicit))
  && (F.fs.all fun i => !(fN i == ("__debug__" : Str)) && decide (F.scope.names.lookup (fN i) = some .globalImplicit)) && (F.bs.all fun i => !(bName i == ("__debug__" : Str)) && decide (F.scope.names.lookup (bName i) = some .globalImplicit))
  && decide (F.np ≤ F.ls.length) && !F.scope.isCoroutine && !F.scope.isGenerator && decide (F.scope.kind = .function) && (F.scope.names.all fun x => decide (x.2 ≠ .cell))
structure FdOK (gN fN : Nat → Str) (F : Fd) : Prop where
  nd : F.ls.Nodup
  loc : ∀ x ∈ F.ls, (x == ("__debug__" : Str)) = false ∧ F.scope.names.lookup x = some .local
  g : ∀ i, F.gs.contains i = true → (gN i == ("__debug__" : Str)) = false ∧ F.scope.names.lookup (gN i) = some .globalImplicit
  f : ∀ i, F.fs.contains i = true → (fN i == ("__debug__" : Str)) = false ∧ F.scope.names.lookup (fN i) = some .globalImplicit
  b : ∀ i, F.bs.contains i = true → (bName i == ("__debug__" : Str)) = false ∧ F.scope.names.lookup (bName i) = some .globalImplicit
  np : F.np ≤ F.ls.length
  co : F.scope.isCoroutine = false
  ge : F.scope.isGenerator = false
  k : F.scope.kind = .function
  nc : ∀ x ∈ F.scope.names, x.2 ≠ .cell
theorem fdOK {gN fN : Nat → Str} {F : Fd} (h : fdChk gN fN F = true) : FdOK gN fN F := by
  unfold fdChk at h
  simp only [Bool.and_eq_true, decide_eq_true_eq, List.all_eq_true, Bool.not_eq_true'] at h
  obtain ⟨⟨⟨⟨⟨⟨⟨⟨⟨h1, h2⟩, h3⟩, h4⟩, h5⟩, h6⟩, h7⟩, h8⟩, h9⟩, h10⟩ := h
  exact ⟨h1, h2, fun i q => h3 i (by simpa using q), fun i q => h4 i (by simpa using q), fun i q => h5 i (by simpa using q), h6, h7, h8, h9, h10⟩
theorem lookup_mem {α β : Type} [BEq α] [LawfulBEq α] : ∀ {l : List (α × β)} {k : α} {v : β}, (l.map (·.1)).Nodup → (k, v) ∈ l → l.lookup k = some v
  | [], _, _, _, h => by cases h
  | (a, b) :: l, k, v, hn, h => by
    rw [List.map_cons, List.nodup_cons] at hn
    rcases List.mem_cons.mp h with q | q
    · cases q; simp [List.lookup]
    · have : (k == a) = false := by
        rw [beq_eq_false_iff_ne]
        rintro rfl
        exact hn.1 (List.mem_map.mpr ⟨_, q, rfl⟩)
      rw [List.lookup, this]
      exact lookup_mem hn.2 q
/-- a global's value, wherever it is read -/
noncomputable def GV (prog : Program) (w : World) (K : Frag) (mg : Str → Option Value) (name : Str) (v : V) : Prop := ∃ val, mg name = some val ∧ ∀ (X : Ex) (h : Heap), K.In h → (∀ a o, K.lookup a = some o → ¬ X a) → VR prog w X h v val
section
variable {prog : Program} {w : World} {K : Frag} {n : Nat} {gN fN : Nat → Str} {W : Wd} {F : Fd} {mg mb : Str → Option Value}
structure WdOK (prog : Program) (w : World) (K : Frag) (n : Nat) (gN fN : Nat → Str) (W : Wd) (mg mb : Str → Option Value) : Prop where
  g : ∀ i v, W.g i = some v → GV prog w K mg (gN i) v
  f : ∀ i xs v, W.f i xs = some v → CallOK prog w K n mg mb (fN i) xs v
  b : ∀ i, W.b i = true → mg (bName i) = none ∧ mb (bName i) = some (bVal i)
theorem getD_lt {l : List Str} {i : Nat} (h : i < l.length) : (l[i]?).getD (Str.ofString "") = l[i] := by simp [h]
theorem nodup_get {α : Type} {l : List α} (h : l.Nodup) {i j : Nat} (hi : i < l.length) (hj : j < l.length) (e : l[i] = l[j]) : i = j := (List.getElem_inj h).mp e
/-- the state at a def's entry -/
theorem entry_ok {X : Ex} {h₀ h₁ : Heap} {L a : Addr} {m : Str → Option Value} {s : Shared} {vals : List Value} {xs : List V} {cd : Value} (D : FdOK gN fN F) (hW : WdOK prog w K n gN fN W mg mb) (S : St prog K mg mb X h₀ L m s.heap) (hv : VRs prog w X s.heap xs vals) (hl : xs.length = F.np)
    (F₁ : Fr s.heap s.heap.objs.size h₁ (fun x => ((F.ls.take F.np).zip vals).reverse.lookup x)) :
    RS prog w K n (nmOf gN fN F) (cut W F) mg mb (fun b => X b ∨ b = s.heap.objs.size) (fun _ => False) (xs.map .fr ++ List.replicate (F.ls.length - F.np) .un) (fun _ => 0) (envOf F.name F.scope s.heap.objs.size a cd) s.heap (fun x => ((F.ls.take F.np).zip vals).reverse.lookup x) h₁ := by
  have new : ¬ X s.heap.objs.size := S.xd.new
  have hY : ∀ b o, s.heap.get? b = some o → Xo (fun b => X b ∨ b = s.heap.objs.size) (fun _ => False) b → X b := fun b o e y => by
    rcases y with (y | y) | y
    · exact y
    · subst y; exact absurd (Heap.lt_size e) (Nat.lt_irrefl _)
    · exact y.elim
  have hk : ∀ b o, ¬ X b → s.heap.get? b = some o → h₁.get? b = some o := fun b o _ e => F₁.keep b o e
  have kin : K.In h₁ := S.hb.k.keeps F₁.keep
  have xk : ∀ b o, K.lookup b = some o → ¬ Xo (fun b => X b ∨ b = s.heap.objs.size) (fun _ => False) b := fun b o e y => S.xk b o e (hY b o (S.hb.k b o e) y)
  have hlen : (xs.map Sl.fr ++ List.replicate (F.ls.length - F.np) Sl.un).length = F.ls.length := by
    have := D.np
    rw [List.length_append, List.length_map, List.length_replicate, hl]; omega
  have vl := hv.length
  have nd : (((F.ls.take F.np).zip vals).map (·.1)).Nodup := by
    rw [zip_fst' _ _ (by rw [List.length_take, vl, hl]; have := D.np; omega)]
    exact D.nd.sublist (List.take_sublist _ _)
  have par : ∀ i v, (xs.map Sl.fr ++ List.replicate (F.ls.length - F.np) Sl.un)[i]? = some (.fr v) → i < F.np ∧ xs[i]? = some v := fun i v e => by
    by_cases q : i < F.np
    · refine ⟨q, ?_⟩
      rw [List.getElem?_append_left (by rw [List.length_map, hl]; exact q), List.getElem?_map] at e
      obtain ⟨u, hu, q2⟩ := Option.map_eq_some_iff.mp e
      cases q2; exact hu
    · rw [List.getElem?_append_right (by rw [List.length_map, hl]; omega), List.getElem?_replicate] at e
      split at e <;> cases e
  have nfo : ∀ (i : Nat) (v : V), (List.map Sl.fr xs ++ List.replicate (F.ls.length - F.np) Sl.un)[i]? ≠ some (Sl.ow v) ∧ (List.map Sl.fr xs ++ List.replicate (F.ls.length - F.np) Sl.un)[i]? ≠ some (Sl.cl v) := fun i v => by
    by_cases q : i < F.np
    · rw [List.getElem?_append_left (by rw [List.length_map, hl]; exact q), List.getElem?_map]
      cases xs[i]? <;> simp
    · rw [List.getElem?_append_right (by rw [List.length_map, hl]; omega), List.getElem?_replicate]
      split <;> simp
  refine { cx := { st := ⟨S.hb, .inl (.inr rfl), fun b y => ?_, F₁, xk⟩, eg := rfl, eb := rfl, ek := D.k, loc := ?_, glo := ?_, fn := ?_, blt := ?_ }, ol := fun _ y => y.elim, yl := .inr rfl, inj := fun i _ u _ e => ((nfo i u).1 e).elim, ow := fun i u e => ((nfo i u).1 e).elim, kd := ?_, nj := ?_ }
  · rcases y with (y | y) | y
    · obtain ⟨o, ho⟩ := S.xd b y
      exact ⟨o, F₁.keep b o ho⟩
    · exact y ▸ Fr.at F₁
    · exact y.elim
  · intro i v e
    rcases frz_get.mp e with e | e
    · obtain ⟨q, hx⟩ := par i v e
      have hi : i < F.ls.length := Nat.lt_of_lt_of_le q D.np
      obtain ⟨val, h1, h2⟩ := hv.get hx
      show (((F.ls[i]?).getD (Str.ofString "")) == ("__debug__" : Str)) = false ∧ _
      have en : (nmOf gN fN F).l i = F.ls[i] := getD_lt hi
      rw [getD_lt hi]
      obtain ⟨d1, d2⟩ := D.loc F.ls[i] (List.getElem_mem hi)
      refine ⟨d1, .inl ⟨?_, val, ?_, h2.mono hk hY⟩⟩
      · rw [en]; exact d2
      · rw [en]
        refine lookup_mem ?_ ?_
        · rw [List.map_reverse]; exact List.pairwise_reverse.mpr (nd.imp fun h => Ne.symm h)
        · rw [List.mem_reverse]
          rw [List.getElem?_eq_some_iff] at h1
          obtain ⟨h1l, h1e⟩ := h1
          refine List.mem_iff_getElem.mpr ⟨i, ?_, ?_⟩
          · rw [List.length_zip, List.length_take]; omega
          · simp [h1e]
    · exact ((nfo i v).2 e).elim
  · intro i v e
    simp only [cut] at e
    split at e
    · rename_i hc
      obtain ⟨d1, d2⟩ := D.g i hc
      obtain ⟨val, h1, h2⟩ := hW.g i v e
      exact ⟨d1, d2, val, h1, h2 _ _ kin xk⟩
    · cases e
  · intro i xs v e
    simp only [cut] at e
    split at e
    · rename_i hc
      obtain ⟨d1, d2⟩ := D.f i hc
      exact ⟨d1, d2, hW.f i xs v e⟩
    · cases e
  · intro i e
    simp only [cut, Bool.and_eq_true] at e
    obtain ⟨d1, d2⟩ := D.b i e.1
    exact ⟨d1, d2, hW.b i e.2⟩
  · intro i u e _
    have hi : i < F.ls.length := hlen ▸ RS.lt e
    have en : (nmOf gN fN F).l i = F.ls[i] := getD_lt hi
    rw [en]
    exact D.loc _ (List.getElem_mem hi)
  · intro i j hi hj e
    rw [hlen] at hi hj
    have e1 : (nmOf gN fN F).l i = F.ls[i] := getD_lt hi
    have e2 : (nmOf gN fN F).l j = F.ls[j] := getD_lt hj
    rw [e1, e2] at e
    exact nodup_get D.nd hi hj e
/-- what is left of a def's frame -/
theorem leave_ok {X : Ex} {h₀ h' : Heap} {L L' : Addr} {m m' : Str → Option Value} {s : Shared} {v : V} {val : Value} (S : St prog K mg mb X h₀ L m s.heap) (F' : Fr s.heap L' h' m') (V' : VR prog w (fun b => X b ∨ b = L') h' v val) :
    Fr h₀ L h' m ∧ GL L s.heap h' ∧ VR prog w X h' v val :=
  ⟨⟨S.f.ns.keeps F'.keep, fun b o e => F'.keep b o (S.f.keep b o e), S.f.above⟩, GL.of_sub F'.keep, V'.mono (fun _ _ _ e => e) fun _ _ _ y => .inl y⟩
theorem call_core {a : Addr} {o : Obj} {pm cd doc : Value} {xs : List V} {v : V} (D : FdOK gN fN F) (hW : WdOK prog w K n gN fN W mg mb) (ho : K.lookup a = some o) (hd : o.data = .func (Calls.docDef F.name F.params (F.body.py (nmOf gN fN F)) F.scope pm cd doc)) (hcd : ∀ h : Heap, K.In h → h.CodeRec cd F.name)
    (hbind : ∀ vals : List Value, vals.length = F.np → bindArgs (Calls.docDef F.name F.params (F.body.py (nmOf gN fN F)) F.scope pm cd doc) ⟨vals, []⟩ = pure ((F.ls.take F.np).zip vals))
    (hok : ∀ L, okSs (nmOf gN fN F) (envOf F.name F.scope L a cd) F.body) (e : runB W F xs = some v)
    {X : Ex} {h₀ : Heap} {L : Addr} {m : Str → Option Value} {s : Shared} {vals : List Value} (S : St prog K mg mb X h₀ L m s.heap) (hv : VRs prog w X s.heap xs vals)
    {A : Around} {Q E : Value → Shared → Prop} (ha : AOK0 (n + 1) A) (ht : 1 ≤ s.toks) (k : ∀ val h' tk, 1 ≤ tk → Fr h₀ L h' m → GL L s.heap h' → VR prog w X h' v val → Q val { s with heap := h', toks := tk }) : wpAny (model prog w) A (call (.ref a) vals) Q E s := by
  unfold runB at e
  split at e <;> try (cases e; done)
  rename_i hl
  have hvl : vals.length = F.np := by rw [hv.length, hl]
  refine wpAny_call (call_plain_ret (binds := (F.ls.take F.np).zip vals) ha.room (S.hb.k a o ho) hd S.hb.lim (hcd _ S.hb.k) (hbind vals hvl) ?_ (fun h₁ F₁ => ?_) D.co D.ge D.k D.nc)
  · intro x hx
    have := (List.of_mem_zip (show (x.1, x.2) ∈ _ from hx)).1
    exact (D.loc _ (List.take_subset _ _ this)).2
  · have R := entry_ok (a := a) (cd := cd) D hW S hv hl F₁
    have ha' : AOK n (A.deeper (envOf F.name F.scope s.heap.objs.size a cd)) := ha.deeper D.ge D.co rfl rfl
    split at e
    · rename_i v' h1
      cases e
      refine exs_ok (s := { s with heap := h₁, toks := s.toks + _ }) F.body h1 (hok _) R ha' (Nat.le_trans ht (Nat.le_add_right _ _)) fun fl h' tk q o => ?_
      obtain ⟨val, m', rfl, F', V'⟩ := o
      obtain ⟨a1, a2, a3⟩ := leave_ok S F' V'
      exact k val h' tk q a1 a2 a3
    · rename_i σ' h1
      cases e
      refine exs_ok (s := { s with heap := h₁, toks := s.toks + _ }) F.body h1 (hok _) R ha' (Nat.le_trans ht (Nat.le_add_right _ _)) fun fl h' tk q o => ?_
      obtain ⟨rfl, O', α', m', G', R'⟩ := o
      obtain ⟨a1, a2, a3⟩ := leave_ok (v := V.none) (val := .none) S R'.fr rfl
      exact k .none h' tk q a1 a2 a3
    · cases e
end
end Mine

namespace Mine
noncomputable abbrev P (a b c d : Nat) : Pos := ⟨a, b, c, d⟩

noncomputable def gLOADS : V := .dI [40, 41, 44, 45, 46, 47, 48, 49, 50, 51, 52, 53] [(.tup [(.int (-1)), (.int 4), (.int 0)]), (.tup [(.int (-2)), (.int 8), (.int 0)]), (.tup [(.int (-1)), (.int 1), (.int 1)]), (.tup [(.int (-1)), (.int 1), (.int 0)]), (.tup [(.int (-1)), (.int 2), (.int 1)]), (.tup [(.int (-1)), (.int 2), (.int 0)]), (.tup [(.int (-2)), (.int 1), (.int 1)]), (.tup [(.int (-2)), (.int 1), (.int 0)]), (.tup [(.int (-2)), (.int 2), (.int 1)]), (.tup [(.int (-2)), (.int 2), (.int 0)]), (.tup [(.int (-2)), (.int 4), (.int 1)]), (.tup [(.int (-2)), (.int 4), (.int 0)])]
noncomputable def gSTORES : V := .dI [54, 55, 58, 59, 60, 61, 62] [(.tup [(.int (-1)), (.int 4)]), (.tup [(.int (-2)), (.int 8)]), (.tup [(.int (-1)), (.int 1)]), (.tup [(.int (-1)), (.int 2)]), (.tup [(.int (-2)), (.int 1)]), (.tup [(.int (-2)), (.int 2)]), (.tup [(.int (-2)), (.int 4)])]
noncomputable def gLEFT_RANGES : V := .lst [(.tup [(.int 42), (.int 43)]), (.tup [(.int 56), (.int 57)]), (.tup [(.int 67), (.int 68)]), (.tup [(.int 91), (.int 102)]), (.tup [(.int 139), (.int 166)]), (.tup [(.int 168), (.int 171)]), (.tup [(.int 174), (.int 191)]), (.tup [(.int 64512), (.int 64519)])]
noncomputable def gFORMS : V := .dI [0, 1, 2, 3, 4, 5, 11, 12, 13, 14, 15, 16, 17, 18, 19, 26, 27, 28, 32, 33, 34, 35, 36, 37, 38, 63, 64, 65, 66, 208, 209, 210, 64520, 64521, 64522, 64523, 64524, 64525, 64526, 64527, 64528, 64529] [(.str [110,111,110,101]), (.str [110,111,110,101]), (.str [98,108,111,99,107]), (.str [98,108,111,99,107]), (.str [98,108,111,99,107]), (.str [110,111,110,101]), (.str [110,111,110,101]), (.str [108,97,98,101,108]), (.str [108,97,98,101,108]), (.str [108,97,98,101,108,115]), (.str [110,111,110,101]), (.str [102,117,110,99]), (.str [105,110,100,105,114,101,99,116]), (.str [102,117,110,99]), (.str [105,110,100,105,114,101,99,116]), (.str [110,111,110,101]), (.str [110,111,110,101]), (.str [107,105,110,100,115]), (.str [108,111,99,97,108]), (.str [108,111,99,97,108]), (.str [108,111,99,97,108]), (.str [103,108,111,98,97,108]), (.str [103,108,111,98,97,108]), (.str [116,97,98,108,101]), (.str [116,97,98,108,101]), (.str [109,101,109,111,114,121]), (.str [109,101,109,111,114,121]), (.str [105,51,50]), (.str [105,54,52]), (.str [114,101,102,107,105,110,100]), (.str [110,111,110,101]), (.str [102,117,110,99]), (.str [109,101,109,111,114,121,95,105,110,105,116]), (.str [100,97,116,97]), (.str [116,119,111,95,109,101,109,111,114,105,101,115]), (.str [109,101,109,111,114,121]), (.str [116,97,98,108,101,95,105,110,105,116]), (.str [101,108,101,109]), (.str [116,97,98,108,101,95,99,111,112,121]), (.str [116,97,98,108,101]), (.str [116,97,98,108,101]), (.str [116,97,98,108,101])]
noncomputable def gFIXED : V := .dI [1, 63, 64, 65, 66, 210, 64520, 64521, 64522, 64523, 64524, 64525, 64526, 64528] [(.tup [(.tup []), (.tup [])]), (.tup [(.tup []), (.tup [(.int (-1))])]), (.tup [(.tup [(.int (-1))]), (.tup [(.int (-1))])]), (.tup [(.tup []), (.tup [(.int (-1))])]), (.tup [(.tup []), (.tup [(.int (-2))])]), (.tup [(.tup []), (.tup [(.int (-16))])]), (.tup [(.tup [(.int (-1)), (.int (-1)), (.int (-1))]), (.tup [])]), (.tup [(.tup []), (.tup [])]), (.tup [(.tup [(.int (-1)), (.int (-1)), (.int (-1))]), (.tup [])]), (.tup [(.tup [(.int (-1)), (.int (-1)), (.int (-1))]), (.tup [])]), (.tup [(.tup [(.int (-1)), (.int (-1)), (.int (-1))]), (.tup [])]), (.tup [(.tup []), (.tup [])]), (.tup [(.tup [(.int (-1)), (.int (-1)), (.int (-1))]), (.tup [])]), (.tup [(.tup []), (.tup [(.int (-1))])])]
noncomputable def gNUMBERS : V := .tup [(.tup [(.int 69), (.int 69), (.tup [(.int (-1))]), (.tup [(.int (-1))])]), (.tup [(.int 70), (.int 79), (.tup [(.int (-1)), (.int (-1))]), (.tup [(.int (-1))])]), (.tup [(.int 80), (.int 80), (.tup [(.int (-2))]), (.tup [(.int (-1))])]), (.tup [(.int 81), (.int 90), (.tup [(.int (-2)), (.int (-2))]), (.tup [(.int (-1))])]), (.tup [(.int 103), (.int 105), (.tup [(.int (-1))]), (.tup [(.int (-1))])]), (.tup [(.int 106), (.int 120), (.tup [(.int (-1)), (.int (-1))]), (.tup [(.int (-1))])]), (.tup [(.int 121), (.int 123), (.tup [(.int (-2))]), (.tup [(.int (-2))])]), (.tup [(.int 124), (.int 138), (.tup [(.int (-2)), (.int (-2))]), (.tup [(.int (-2))])]), (.tup [(.int 167), (.int 167), (.tup [(.int (-2))]), (.tup [(.int (-1))])]), (.tup [(.int 172), (.int 173), (.tup [(.int (-1))]), (.tup [(.int (-2))])]), (.tup [(.int 192), (.int 193), (.tup [(.int (-1))]), (.tup [(.int (-1))])]), (.tup [(.int 194), (.int 196), (.tup [(.int (-2))]), (.tup [(.int (-2))])])]
noncomputable def gROWS : V := .tup [(.tup [(.int 69), (.str [105,51,50,46]), (.tup [(.str [101,113,122]), (.str [101,113]), (.str [110,101]), (.str [108,116,95,115]), (.str [108,116,95,117]), (.str [103,116,95,115]), (.str [103,116,95,117]), (.str [108,101,95,115]), (.str [108,101,95,117]), (.str [103,101,95,115]), (.str [103,101,95,117])])]), (.tup [(.int 80), (.str [105,54,52,46]), (.tup [(.str [101,113,122]), (.str [101,113]), (.str [110,101]), (.str [108,116,95,115]), (.str [108,116,95,117]), (.str [103,116,95,115]), (.str [103,116,95,117]), (.str [108,101,95,115]), (.str [108,101,95,117]), (.str [103,101,95,115]), (.str [103,101,95,117])])]), (.tup [(.int 103), (.str [105,51,50,46]), (.tup [(.str [99,108,122]), (.str [99,116,122]), (.str [112,111,112,99,110,116]), (.str [97,100,100]), (.str [115,117,98]), (.str [109,117,108]), (.str [100,105,118,95,115]), (.str [100,105,118,95,117]), (.str [114,101,109,95,115]), (.str [114,101,109,95,117]), (.str [97,110,100]), (.str [111,114]), (.str [120,111,114]), (.str [115,104,108]), (.str [115,104,114,95,115]), (.str [115,104,114,95,117]), (.str [114,111,116,108]), (.str [114,111,116,114])])]), (.tup [(.int 121), (.str [105,54,52,46]), (.tup [(.str [99,108,122]), (.str [99,116,122]), (.str [112,111,112,99,110,116]), (.str [97,100,100]), (.str [115,117,98]), (.str [109,117,108]), (.str [100,105,118,95,115]), (.str [100,105,118,95,117]), (.str [114,101,109,95,115]), (.str [114,101,109,95,117]), (.str [97,110,100]), (.str [111,114]), (.str [120,111,114]), (.str [115,104,108]), (.str [115,104,114,95,115]), (.str [115,104,114,95,117]), (.str [114,111,116,108]), (.str [114,111,116,114])])])]
noncomputable def gNAMES : V := .dI [32, 65, 33, 34, 66, 2, 3, 4, 5, 11, 12, 13, 14, 15, 16, 17, 26, 27, 28, 0, 1, 18, 19, 35, 36, 37, 38, 40, 41, 44, 45, 46, 47, 48, 49, 50, 51, 52, 53, 54, 55, 58, 59, 60, 61, 62, 63, 64, 167, 172, 173, 192, 193, 194, 195, 196, 208, 209, 210, 64520, 64521, 64522, 64523, 64524, 64525, 64526, 64527, 64528, 64529] [(.str [108,111,99,97,108,46,103,101,116]), (.str [105,51,50,46,99,111,110,115,116]), (.str [108,111,99,97,108,46,115,101,116]), (.str [108,111,99,97,108,46,116,101,101]), (.str [105,54,52,46,99,111,110,115,116]), (.str [98,108,111,99,107]), (.str [108,111,111,112]), (.str [105,102]), (.str [101,108,115,101]), (.str [101,110,100]), (.str [98,114]), (.str [98,114,95,105,102]), (.str [98,114,95,116,97,98,108,101]), (.str [114,101,116,117,114,110]), (.str [99,97,108,108]), (.str [99,97,108,108,95,105,110,100,105,114,101,99,116]), (.str [100,114,111,112]), (.str [115,101,108,101,99,116]), (.str [115,101,108,101,99,116]), (.str [117,110,114,101,97,99,104,97,98,108,101]), (.str [110,111,112]), (.str [114,101,116,117,114,110,95,99,97,108,108]), (.str [114,101,116,117,114,110,95,99,97,108,108,95,105,110,100,105,114,101,99,116]), (.str [103,108,111,98,97,108,46,103,101,116]), (.str [103,108,111,98,97,108,46,115,101,116]), (.str [116,97,98,108,101,46,103,101,116]), (.str [116,97,98,108,101,46,115,101,116]), (.str [105,51,50,46,108,111,97,100]), (.str [105,54,52,46,108,111,97,100]), (.str [105,51,50,46,108,111,97,100,56,95,115]), (.str [105,51,50,46,108,111,97,100,56,95,117]), (.str [105,51,50,46,108,111,97,100,49,54,95,115]), (.str [105,51,50,46,108,111,97,100,49,54,95,117]), (.str [105,54,52,46,108,111,97,100,56,95,115]), (.str [105,54,52,46,108,111,97,100,56,95,117]), (.str [105,54,52,46,108,111,97,100,49,54,95,115]), (.str [105,54,52,46,108,111,97,100,49,54,95,117]), (.str [105,54,52,46,108,111,97,100,51,50,95,115]), (.str [105,54,52,46,108,111,97,100,51,50,95,117]), (.str [105,51,50,46,115,116,111,114,101]), (.str [105,54,52,46,115,116,111,114,101]), (.str [105,51,50,46,115,116,111,114,101,56]), (.str [105,51,50,46,115,116,111,114,101,49,54]), (.str [105,54,52,46,115,116,111,114,101,56]), (.str [105,54,52,46,115,116,111,114,101,49,54]), (.str [105,54,52,46,115,116,111,114,101,51,50]), (.str [109,101,109,111,114,121,46,115,105,122,101]), (.str [109,101,109,111,114,121,46,103,114,111,119]), (.str [105,51,50,46,119,114,97,112,95,105,54,52]), (.str [105,54,52,46,101,120,116,101,110,100,95,105,51,50,95,115]), (.str [105,54,52,46,101,120,116,101,110,100,95,105,51,50,95,117]), (.str [105,51,50,46,101,120,116,101,110,100,56,95,115]), (.str [105,51,50,46,101,120,116,101,110,100,49,54,95,115]), (.str [105,54,52,46,101,120,116,101,110,100,56,95,115]), (.str [105,54,52,46,101,120,116,101,110,100,49,54,95,115]), (.str [105,54,52,46,101,120,116,101,110,100,51,50,95,115]), (.str [114,101,102,46,110,117,108,108]), (.str [114,101,102,46,105,115,95,110,117,108,108]), (.str [114,101,102,46,102,117,110,99]), (.str [109,101,109,111,114,121,46,105,110,105,116]), (.str [100,97,116,97,46,100,114,111,112]), (.str [109,101,109,111,114,121,46,99,111,112,121]), (.str [109,101,109,111,114,121,46,102,105,108,108]), (.str [116,97,98,108,101,46,105,110,105,116]), (.str [101,108,101,109,46,100,114,111,112]), (.str [116,97,98,108,101,46,99,111,112,121]), (.str [116,97,98,108,101,46,103,114,111,119]), (.str [116,97,98,108,101,46,115,105,122,101]), (.str [116,97,98,108,101,46,102,105,108,108])]
noncomputable def gBLOCK : V := .int 2
noncomputable def gLOOP : V := .int 3
noncomputable def gIF : V := .int 4
noncomputable def gELSE : V := .int 5
noncomputable def gEND : V := .int 11
noncomputable def gVECTOR_PREFIX : V := .int 253
noncomputable def gSELECT_KINDS : V := .int 28
noncomputable def gI32 : V := .int (-1)
noncomputable def gl : Nat → Option V
  | 0 => some gLOADS
  | 1 => some gSTORES
  | 2 => some gLEFT_RANGES
  | 3 => some gFORMS
  | 4 => some gFIXED
  | 5 => some gNUMBERS
  | 6 => some gROWS
  | 7 => some gNAMES
  | 8 => some gBLOCK
  | 9 => some gLOOP
  | 10 => some gIF
  | 11 => some gELSE
  | 12 => some gEND
  | 13 => some gVECTOR_PREFIX
  | 14 => some gSELECT_KINDS
  | 15 => some gI32
  | _ => none
noncomputable def gNm : Nat → Str
  | 0 => Str.ofString "LOADS"
  | 1 => Str.ofString "STORES"
  | 2 => Str.ofString "LEFT_RANGES"
  | 3 => Str.ofString "FORMS"
  | 4 => Str.ofString "FIXED"
  | 5 => Str.ofString "NUMBERS"
  | 6 => Str.ofString "ROWS"
  | 7 => Str.ofString "NAMES"
  | 8 => Str.ofString "BLOCK"
  | 9 => Str.ofString "LOOP"
  | 10 => Str.ofString "IF"
  | 11 => Str.ofString "ELSE"
  | 12 => Str.ofString "END"
  | 13 => Str.ofString "VECTOR_PREFIX"
  | 14 => Str.ofString "SELECT_KINDS"
  | 15 => Str.ofString "I32"
  | _ => Str.ofString ""
noncomputable def fNm : Nat → Str
  | 0 => Str.ofString "number_kind"
  | 1 => Str.ofString "form_of"
  | 2 => Str.ofString "stack_of"
  | 3 => Str.ofString "natural"
  | 4 => Str.ofString "is_block"
  | 5 => Str.ofString "is_left_out"
  | 6 => Str.ofString "matches"
  | 7 => Str.ofString "name_of"
  | 8 => Str.ofString "code_of"
  | 9 => Str.ofString "is_left_word"
  | 10 => Str.ofString "_law_names"
  | 11 => Str.ofString "_law_is_float"
  | 12 => Str.ofString "_law_codes"
  | 13 => Str.ofString "_law_form"
  | 14 => Str.ofString "_law_stack"
  | 15 => Str.ofString "_law_is_access"
  | 16 => Str.ofString "_law_is_told"
  | 17 => Str.ofString "_law_plain"
  | 18 => Str.ofString "_law_body"
  | 19 => Str.ofString "_law_due"
  | 20 => Str.ofString "law"
  | _ => Str.ofString ""
noncomputable def sc0 : Scope := { kind := .function, names := [(Str.ofString "code", .local), (Str.ofString "least", .local), (Str.ofString "most", .local), (Str.ofString "params", .local), (Str.ofString "results", .local), (Str.ofString "NUMBERS", .globalImplicit)], isGenerator := false, isCoroutine := false, more := [] }
noncomputable def ar0 : Arguments := ⟨[], [⟨Str.ofString "code", none, (P 54 16 54 20)⟩], none, [], [], none, []⟩
noncomputable def bd0 : Ss := .cons (.fr (.tp [(1, (P 55 8 55 13)), (2, (P 55 15 55 19)), (3, (P 55 21 55 27)), (4, (P 55 29 55 36))] 0 (P 55 8 55 36)) (.glo 5 (P 55 40 55 47)) (.cons (.ifs (.chn (.loc 1 (P 56 11 56 16)) .LtE (.loc 0 (P 56 20 56 24)) .LtE (.loc 2 (P 56 28 56 32)) (P 56 11 56 32)) (.cons (.ret (.tup (.cons (.loc 3 (P 57 20 57 26)) (.cons (.loc 4 (P 57 28 57 35)) .nil)) 0 (P 57 19 57 36)) (P 57 12 57 36)) .nil) .nil (P 56 8 57 36)) .nil) (P 55 4 57 36)) (.cons (.ret (.none 0 (P 58 11 58 15)) (P 58 4 58 15)) .nil)
noncomputable def fd0 : Fd := ⟨Str.ofString "number_kind", ar0, bd0, sc0, [Str.ofString "code", Str.ofString "least", Str.ofString "most", Str.ofString "params", Str.ofString "results"], 1, [5], [], []⟩
noncomputable def sc1 : Scope := { kind := .function, names := [(Str.ofString "code", .local), (Str.ofString "FORMS", .globalImplicit), (Str.ofString "LOADS", .globalImplicit), (Str.ofString "STORES", .globalImplicit), (Str.ofString "number_kind", .globalImplicit)], isGenerator := false, isCoroutine := false, more := [] }
noncomputable def ar1 : Arguments := ⟨[], [⟨Str.ofString "code", none, (P 59 12 59 16)⟩], none, [], [], none, []⟩
noncomputable def bd1 : Ss := .cons (.ifs (.cmp (.loc 0 (P 60 7 60 11)) .In (.glo 3 (P 60 15 60 20)) (P 60 7 60 20)) (.cons (.ret (.sub (.glo 3 (P 61 15 61 20)) (.loc 0 (P 61 21 61 25)) (P 61 15 61 26)) (P 61 8 61 26)) .nil) .nil (P 60 4 61 26)) (.cons (.ifs (.bop .Or (.cmp (.loc 0 (P 62 7 62 11)) .In (.glo 0 (P 62 15 62 20)) (P 62 7 62 20)) (.cmp (.loc 0 (P 62 24 62 28)) .In (.glo 1 (P 62 32 62 38)) (P 62 24 62 38)) (P 62 7 62 38)) (.cons (.ret (.str [109,101,109,97,114,103] 0 (P 63 15 63 23)) (P 63 8 63 23)) .nil) .nil (P 62 4 63 23)) (.cons (.ret (.ite (.cmp (.call 0 (.cons (.loc 0 (P 64 31 64 35)) .nil) (P 64 19 64 30) (P 64 19 64 36)) .Is (.none 0 (P 64 40 64 44)) (P 64 19 64 44)) (.none 0 (P 64 11 64 15)) (.str [110,111,110,101] 0 (P 64 50 64 56)) (P 64 11 64 56)) (P 64 4 64 56)) .nil))
noncomputable def fd1 : Fd := ⟨Str.ofString "form_of", ar1, bd1, sc1, [Str.ofString "code"], 1, [0, 1, 3], [0], []⟩
noncomputable def sc2 : Scope := { kind := .function, names := [(Str.ofString "code", .local), (Str.ofString "FIXED", .globalImplicit), (Str.ofString "LOADS", .globalImplicit), (Str.ofString "I32", .globalImplicit), (Str.ofString "STORES", .globalImplicit), (Str.ofString "number_kind", .globalImplicit)], isGenerator := false, isCoroutine := false, more := [] }
noncomputable def ar2 : Arguments := ⟨[], [⟨Str.ofString "code", none, (P 65 13 65 17)⟩], none, [], [], none, []⟩
noncomputable def bd2 : Ss := .cons (.ifs (.cmp (.loc 0 (P 66 7 66 11)) .In (.glo 4 (P 66 15 66 20)) (P 66 7 66 20)) (.cons (.ret (.sub (.glo 4 (P 67 15 67 20)) (.loc 0 (P 67 21 67 25)) (P 67 15 67 26)) (P 67 8 67 26)) .nil) .nil (P 66 4 67 26)) (.cons (.ifs (.cmp (.loc 0 (P 68 7 68 11)) .In (.glo 0 (P 68 15 68 20)) (P 68 7 68 20)) (.cons (.ret (.tup (.cons (.tup (.cons (.glo 15 (P 69 17 69 20)) .nil) 0 (P 69 16 69 22)) (.cons (.tup (.cons (.sub (.sub (.glo 0 (P 69 25 69 30)) (.loc 0 (P 69 31 69 35)) (P 69 25 69 36)) (.int 0 0 (P 69 37 69 38)) (P 69 25 69 39)) .nil) 0 (P 69 24 69 41)) .nil)) 0 (P 69 15 69 42)) (P 69 8 69 42)) .nil) .nil (P 68 4 69 42)) (.cons (.ifs (.cmp (.loc 0 (P 70 7 70 11)) .In (.glo 1 (P 70 15 70 21)) (P 70 7 70 21)) (.cons (.ret (.tup (.cons (.tup (.cons (.glo 15 (P 71 17 71 20)) (.cons (.sub (.sub (.glo 1 (P 71 22 71 28)) (.loc 0 (P 71 29 71 33)) (P 71 22 71 34)) (.int 0 0 (P 71 35 71 36)) (P 71 22 71 37)) .nil)) 0 (P 71 16 71 38)) (.cons (.tup .nil 0 (P 71 40 71 42)) .nil)) 0 (P 71 15 71 43)) (P 71 8 71 43)) .nil) .nil (P 70 4 71 43)) (.cons (.ret (.call 0 (.cons (.loc 0 (P 72 23 72 27)) .nil) (P 72 11 72 22) (P 72 11 72 28)) (P 72 4 72 28)) .nil)))
noncomputable def fd2 : Fd := ⟨Str.ofString "stack_of", ar2, bd2, sc2, [Str.ofString "code"], 1, [0, 1, 4, 15], [0], []⟩
noncomputable def sc3 : Scope := { kind := .function, names := [(Str.ofString "code", .local), (Str.ofString "octets", .local), (Str.ofString "LOADS", .globalImplicit), (Str.ofString "STORES", .globalImplicit)], isGenerator := false, isCoroutine := false, more := [] }
noncomputable def ar3 : Arguments := ⟨[], [⟨Str.ofString "code", none, (P 73 12 73 16)⟩], none, [], [], none, []⟩
noncomputable def bd3 : Ss := .cons (.asg 1 (.ite (.cmp (.loc 0 (P 74 31 74 35)) .In (.glo 0 (P 74 39 74 44)) (P 74 31 74 44)) (.sub (.sub (.glo 0 (P 74 13 74 18)) (.loc 0 (P 74 19 74 23)) (P 74 13 74 24)) (.int 1 0 (P 74 25 74 26)) (P 74 13 74 27)) (.sub (.sub (.glo 1 (P 74 50 74 56)) (.loc 0 (P 74 57 74 61)) (P 74 50 74 62)) (.int 1 0 (P 74 63 74 64)) (P 74 50 74 65)) (P 74 13 74 65)) (P 74 4 74 10) (P 74 4 74 65)) (.cons (.ret (.sub (.dctI [(1, 0, (P 75 12 75 13)), (2, 0, (P 75 18 75 19)), (4, 0, (P 75 24 75 25)), (8, 0, (P 75 30 75 31))] [(0, 0, (P 75 15 75 16)), (1, 0, (P 75 21 75 22)), (2, 0, (P 75 27 75 28)), (3, 0, (P 75 33 75 34))] (P 75 11 75 35)) (.loc 1 (P 75 36 75 42)) (P 75 11 75 43)) (P 75 4 75 43)) .nil)
noncomputable def fd3 : Fd := ⟨Str.ofString "natural", ar3, bd3, sc3, [Str.ofString "code", Str.ofString "octets"], 1, [0, 1], [], []⟩
noncomputable def sc4 : Scope := { kind := .function, names := [(Str.ofString "code", .local), (Str.ofString "BLOCK", .globalImplicit), (Str.ofString "LOOP", .globalImplicit), (Str.ofString "IF", .globalImplicit)], isGenerator := false, isCoroutine := false, more := [] }
noncomputable def ar4 : Arguments := ⟨[], [⟨Str.ofString "code", none, (P 76 13 76 17)⟩], none, [], [], none, []⟩
noncomputable def bd4 : Ss := .cons (.ret (.cmp (.loc 0 (P 77 11 77 15)) .In (.tup (.cons (.glo 8 (P 77 20 77 25)) (.cons (.glo 9 (P 77 27 77 31)) (.cons (.glo 10 (P 77 33 77 35)) .nil))) 0 (P 77 19 77 36)) (P 77 11 77 36)) (P 77 4 77 36)) .nil
noncomputable def fd4 : Fd := ⟨Str.ofString "is_block", ar4, bd4, sc4, [Str.ofString "code"], 1, [8, 9, 10], [], []⟩
noncomputable def sc5 : Scope := { kind := .function, names := [(Str.ofString "code", .cell), (Str.ofString "VECTOR_PREFIX", .globalImplicit), (Str.ofString "any", .globalImplicit), (Str.ofString "LEFT_RANGES", .globalImplicit)], isGenerator := false, isCoroutine := false, more := [(Str.ofString "fast", .str (Str.ofString "code")), (Str.ofString "fast", .str (Str.ofString "least")), (Str.ofString "fast", .str (Str.ofString "most"))] }
noncomputable def ar5 : Arguments := ⟨[], [⟨Str.ofString "code", none, (P 78 16 78 20)⟩], none, [], [], none, []⟩
noncomputable def bd5 : Ss := .cons (.ifs (.cmp (.loc 0 (P 79 7 79 11)) .Eq (.glo 13 (P 79 15 79 28)) (P 79 7 79 28)) (.cons (.ret (.bool true 0 (P 80 15 80 19)) (P 80 8 80 19)) .nil) .nil (P 79 4 80 19)) .nil
noncomputable def sc6 : Scope := { kind := .function, names := [(Str.ofString "body", .local), (Str.ofString "ends", .local), (Str.ofString "elses", .local), (Str.ofString "opened", .local), (Str.ofString "at", .local), (Str.ofString "instruction", .local), (Str.ofString "code", .local), (Str.ofString "begin", .local), (Str.ofString "enumerate", .globalImplicit), (Str.ofString "is_block", .globalImplicit), (Str.ofString "ELSE", .globalImplicit), (Str.ofString "END", .globalImplicit)], isGenerator := false, isCoroutine := false, more := [] }
noncomputable def ar6 : Arguments := ⟨[], [⟨Str.ofString "body", none, (P 82 12 82 16)⟩], none, [], [], none, []⟩
noncomputable def bd6 : Ss := .cons (.ownT [(1, .i, (P 83 4 83 8), (P 83 27 83 29)), (2, .i, (P 83 10 83 15), (P 83 31 83 33)), (3, .l, (P 83 17 83 23), (P 83 35 83 37))] 0 (P 83 4 83 23) 0 (P 83 26 83 38) (P 83 4 83 38)) (.cons (.frE (.tp [(4, (P 84 8 84 10)), (5, (P 84 12 84 23))] 0 (P 84 8 84 23)) (.loc 0 (P 84 37 84 41)) (P 84 27 84 36) (P 84 27 84 42) (.cons (.asg 6 (.sub (.loc 5 (P 85 15 85 26)) (.int 0 0 (P 85 27 85 28)) (P 85 15 85 29)) (P 85 8 85 12) (P 85 8 85 29)) (.cons (.ifs (.call 4 (.cons (.loc 6 (P 86 20 86 24)) .nil) (P 86 11 86 19) (P 86 11 86 25)) (.cons (.app 3 (.loc 4 (P 87 26 87 28)) (P 87 12 87 18) (P 87 12 87 25) (P 87 12 87 29) (P 87 12 87 29)) .nil) (.cons (.ifs (.cmp (.loc 6 (P 88 13 88 17)) .Eq (.glo 11 (P 88 21 88 25)) (P 88 13 88 25)) (.cons (.setI 2 (.sub (.loc 3 (P 89 18 89 24)) (.neg 1 0 (P 89 26 89 27) (P 89 25 89 27)) (P 89 18 89 28)) (.loc 4 (P 89 32 89 34)) (P 89 12 89 17) (P 89 12 89 29) (P 89 12 89 34)) .nil) (.cons (.ifs (.bop .And (.cmp (.loc 6 (P 90 13 90 17)) .Eq (.glo 12 (P 90 21 90 24)) (P 90 13 90 24)) (.cmp (.loc 3 (P 90 29 90 35)) .NotEq (.lst .nil (P 90 39 90 41)) (P 90 29 90 41)) (P 90 13 90 41)) (.cons (.asgPop 7 (P 91 12 91 17) 3 (P 91 20 91 26) (P 91 20 91 30) (P 91 20 91 32) (P 91 12 91 32)) (.cons (.setI 1 (.loc 7 (P 92 17 92 22)) (.loc 4 (P 92 26 92 28)) (P 92 12 92 16) (P 92 12 92 23) (P 92 12 92 28)) (.cons (.ifs (.cmp (.loc 7 (P 93 15 93 20)) .In (.loc 2 (P 93 24 93 29)) (P 93 15 93 29)) (.cons (.setI 1 (.sub (.loc 2 (P 94 21 94 26)) (.loc 7 (P 94 27 94 32)) (P 94 21 94 33)) (.loc 4 (P 94 37 94 39)) (P 94 16 94 20) (P 94 16 94 34) (P 94 16 94 39)) .nil) .nil (P 93 12 94 39)) .nil))) .nil (P 90 8 94 39)) .nil) (P 88 8 94 39)) .nil) (P 86 8 94 39)) .nil)) (P 84 4 94 39)) (.cons (.ret (.tup (.cons (.loc 1 (P 95 12 95 16)) (.cons (.loc 2 (P 95 18 95 23)) .nil)) 0 (P 95 11 95 24)) (P 95 4 95 24)) .nil))
noncomputable def fd6 : Fd := ⟨Str.ofString "matches", ar6, bd6, sc6, [Str.ofString "body", Str.ofString "ends", Str.ofString "elses", Str.ofString "opened", Str.ofString "at", Str.ofString "instruction", Str.ofString "code", Str.ofString "begin"], 1, [11, 12], [4], [2]⟩
noncomputable def sc7 : Scope := { kind := .function, names := [(Str.ofString "code", .local), (Str.ofString "first", .local), (Str.ofString "prefix", .local), (Str.ofString "words", .local), (Str.ofString "NAMES", .globalImplicit), (Str.ofString "ROWS", .globalImplicit), (Str.ofString "len", .globalImplicit)], isGenerator := false, isCoroutine := false, more := [] }
noncomputable def ar7 : Arguments := ⟨[], [⟨Str.ofString "code", none, (P 101 12 101 16)⟩], none, [], [], none, []⟩
noncomputable def bd7 : Ss := .cons (.ifs (.cmp (.loc 0 (P 102 7 102 11)) .In (.glo 7 (P 102 15 102 20)) (P 102 7 102 20)) (.cons (.ret (.sub (.glo 7 (P 103 15 103 20)) (.loc 0 (P 103 21 103 25)) (P 103 15 103 26)) (P 103 8 103 26)) .nil) .nil (P 102 4 103 26)) (.cons (.fr (.tp [(1, (P 104 8 104 13)), (2, (P 104 15 104 21)), (3, (P 104 23 104 28))] 0 (P 104 8 104 28)) (.glo 6 (P 104 32 104 36)) (.cons (.ifs (.chn (.loc 1 (P 105 11 105 16)) .LtE (.loc 0 (P 105 20 105 24)) .Lt (.bin (.loc 1 (P 105 27 105 32)) .Add (.len (.loc 3 (P 105 39 105 44)) (P 105 35 105 38) (P 105 35 105 45)) (P 105 27 105 45)) (P 105 11 105 45)) (.cons (.ret (.bin (.loc 2 (P 106 19 106 25)) .Add (.sub (.loc 3 (P 106 28 106 33)) (.bin (.loc 0 (P 106 34 106 38)) .Sub (.loc 1 (P 106 41 106 46)) (P 106 34 106 46)) (P 106 28 106 47)) (P 106 19 106 47)) (P 106 12 106 47)) .nil) .nil (P 105 8 106 47)) .nil) (P 104 4 106 47)) (.cons (.ret (.none 0 (P 107 11 107 15)) (P 107 4 107 15)) .nil))
noncomputable def fd7 : Fd := ⟨Str.ofString "name_of", ar7, bd7, sc7, [Str.ofString "code", Str.ofString "first", Str.ofString "prefix", Str.ofString "words"], 1, [6, 7], [], [0]⟩
noncomputable def sc8 : Scope := { kind := .function, names := [(Str.ofString "name", .local), (Str.ofString "first", .local), (Str.ofString "prefix", .local), (Str.ofString "words", .local), (Str.ofString "code", .local), (Str.ofString "ROWS", .globalImplicit), (Str.ofString "NAMES", .globalImplicit), (Str.ofString "SELECT_KINDS", .globalImplicit)], isGenerator := false, isCoroutine := false, more := [] }
noncomputable def ar8 : Arguments := ⟨[], [⟨Str.ofString "name", none, (P 108 12 108 16)⟩], none, [], [], none, []⟩
noncomputable def bd8 : Ss := .cons (.fr (.tp [(1, (P 109 8 109 13)), (2, (P 109 15 109 21)), (3, (P 109 23 109 28))] 0 (P 109 8 109 28)) (.glo 6 (P 109 32 109 36)) (.cons (.ifs (.bop .And (.cmp (.slTo (.loc 0 (P 110 11 110 15)) (.int 4 0 (P 110 17 110 18)) (P 110 16 110 18) (P 110 11 110 19)) .Eq (.loc 2 (P 110 23 110 29)) (P 110 11 110 29)) (.cmp (.slFr (.loc 0 (P 110 34 110 38)) (.int 4 0 (P 110 39 110 40)) (P 110 39 110 41) (P 110 34 110 42)) .In (.loc 3 (P 110 46 110 51)) (P 110 34 110 51)) (P 110 11 110 51)) (.cons (.ret (.bin (.loc 1 (P 111 19 111 24)) .Add (.meth (.loc 3 (P 111 27 111 32)) 2 (.slFr (.loc 0 (P 111 39 111 43)) (.int 4 0 (P 111 44 111 45)) (P 111 44 111 46) (P 111 39 111 47)) (P 111 27 111 38) (P 111 27 111 48)) (P 111 19 111 48)) (P 111 12 111 48)) .nil) .nil (P 110 8 111 48)) .nil) (P 109 4 111 48)) (.cons (.fr (.nm 4 (P 112 8 112 12)) (.glo 7 (P 112 16 112 21)) (.cons (.ifs (.bop .And (.cmp (.sub (.glo 7 (P 113 11 113 16)) (.loc 4 (P 113 17 113 21)) (P 113 11 113 22)) .Eq (.loc 0 (P 113 26 113 30)) (P 113 11 113 30)) (.cmp (.loc 4 (P 113 35 113 39)) .NotEq (.glo 14 (P 113 43 113 55)) (P 113 35 113 55)) (P 113 11 113 55)) (.cons (.ret (.loc 4 (P 114 19 114 23)) (P 114 12 114 23)) .nil) .nil (P 113 8 114 23)) .nil) (P 112 4 114 23)) (.cons (.ret (.none 0 (P 115 11 115 15)) (P 115 4 115 15)) .nil))
noncomputable def fd8 : Fd := ⟨Str.ofString "code_of", ar8, bd8, sc8, [Str.ofString "name", Str.ofString "first", Str.ofString "prefix", Str.ofString "words", Str.ofString "code"], 1, [6, 7, 14], [], []⟩
noncomputable def sc9 : Scope := { kind := .function, names := [(Str.ofString "word", .local)], isGenerator := false, isCoroutine := false, more := [] }
noncomputable def ar9 : Arguments := ⟨[], [⟨Str.ofString "word", none, (P 116 17 116 21)⟩], none, [], [], none, []⟩
noncomputable def bd9 : Ss := .cons (.ifs (.bop3 .Or (.cmp (.slTo (.loc 0 (P 117 7 117 11)) (.int 4 0 (P 117 13 117 14)) (P 117 12 117 14) (P 117 7 117 15)) .In (.tup (.cons (.str [102,51,50,46] 0 (P 117 20 117 26)) (.cons (.str [102,54,52,46] 0 (P 117 28 117 34)) (.cons (.str [118,49,50,56] 0 (P 117 36 117 42)) .nil))) 0 (P 117 19 117 43)) (P 117 7 117 43)) (.cmp (.str [95,102,51,50] 0 (P 117 47 117 53)) .In (.loc 0 (P 117 57 117 61)) (P 117 47 117 61)) (.cmp (.str [95,102,54,52] 0 (P 117 65 117 71)) .In (.loc 0 (P 117 75 117 79)) (P 117 65 117 79)) (P 117 7 117 79)) (.cons (.ret (.bool true 0 (P 118 15 118 19)) (P 118 8 118 19)) .nil) .nil (P 117 4 118 19)) (.cons (.ret (.bop .Or (.cmp (.slTo (.loc 0 (P 119 11 119 15)) (.int 6 0 (P 119 17 119 18)) (P 119 16 119 18) (P 119 11 119 19)) .In (.tup (.cons (.str [105,56,120,49,54,46] 0 (P 119 24 119 32)) (.cons (.str [105,49,54,120,56,46] 0 (P 119 34 119 42)) (.cons (.str [105,51,50,120,52,46] 0 (P 119 44 119 52)) (.cons (.str [105,54,52,120,50,46] 0 (P 119 54 119 62)) (.cons (.str [102,51,50,120,52,46] 0 (P 119 64 119 72)) (.cons (.str [102,54,52,120,50,46] 0 (P 119 74 119 82)) .nil)))))) 0 (P 119 23 119 83)) (P 119 11 119 83)) (.cmp (.str [116,114,117,110,99,95,115,97,116] 0 (P 119 87 119 98)) .In (.loc 0 (P 119 102 119 106)) (P 119 87 119 106)) (P 119 11 119 106)) (P 119 4 119 106)) .nil)
noncomputable def fd9 : Fd := ⟨Str.ofString "is_left_word", ar9, bd9, sc9, [Str.ofString "word"], 1, [], [], []⟩
noncomputable def sc10 : Scope := { kind := .function, names := [(Str.ofString "tests", .local), (Str.ofString "whole", .local), (Str.ofString "points", .local), (Str.ofString "cuts", .local), (Str.ofString "turns", .local), (Str.ofString "rows", .local), (Str.ofString "names", .local), (Str.ofString "first", .local), (Str.ofString "head", .local), (Str.ofString "words", .local), (Str.ofString "k", .local), (Str.ofString "word", .local), (Str.ofString "enumerate", .globalImplicit)], isGenerator := false, isCoroutine := false, more := [] }
noncomputable def ar10 : Arguments := ⟨[], [], none, [], [], none, []⟩
noncomputable def bd10 : Ss := .cons (.asg 0 (.str [101,113,122,32,101,113,32,110,101,32,108,116,95,115,32,108,116,95,117,32,103,116,95,115,32,103,116,95,117,32,108,101,95,115,32,108,101,95,117,32,103,101,95,115,32,103,101,95,117] 0 (P 122 12 122 63)) (P 122 4 122 9) (P 122 4 122 63)) (.cons (.asg 1 (.str [99,108,122,32,99,116,122,32,112,111,112,99,110,116,32,97,100,100,32,115,117,98,32,109,117,108,32,100,105,118,95,115,32,100,105,118,95,117,32,114,101,109,95,115,32,114,101,109,95,117,32,97,110,100,32,111,114,32,120,111,114,32,115,104,108,32,115,104,114,95,115,32,115,104,114,95,117,32,114,111,116,108,32,114,111,116,114] 0 (P 123 12 123 101)) (P 123 4 123 9) (P 123 4 123 101)) (.cons (.asg 2 (.str [97,98,115,32,110,101,103,32,99,101,105,108,32,102,108,111,111,114,32,116,114,117,110,99,32,110,101,97,114,101,115,116,32,115,113,114,116,32,97,100,100,32,115,117,98,32,109,117,108,32,100,105,118,32,109,105,110,32,109,97,120,32,99,111,112,121,115,105,103,110] 0 (P 124 13 124 85)) (P 124 4 124 10) (P 124 4 124 85)) (.cons (.asg 3 (.str [116,114,117,110,99,95,115,97,116,95,102,51,50,95,115,32,116,114,117,110,99,95,115,97,116,95,102,51,50,95,117,32,116,114,117,110,99,95,115,97,116,95,102,54,52,95,115,32,116,114,117,110,99,95,115,97,116,95,102,54,52,95,117] 0 (P 125 11 125 76)) (P 125 4 125 8) (P 125 4 125 76)) (.cons (.asg 4 (.str [99,111,110,118,101,114,116,95,105,51,50,95,115,32,99,111,110,118,101,114,116,95,105,51,50,95,117,32,99,111,110,118,101,114,116,95,105,54,52,95,115,32,99,111,110,118,101,114,116,95,105,54,52,95,117] 0 (P 126 12 126 69)) (P 126 4 126 9) (P 126 4 126 69)) (.cons (.asg 5 (.lst (.cons (.tup (.cons (.int 0 0 (P 127 13 127 14)) (.cons (.str [] 0 (P 127 16 127 18)) (.cons (.str [117,110,114,101,97,99,104,97,98,108,101,32,110,111,112,32,98,108,111,99,107,32,108,111,111,112,32,105,102,32,101,108,115,101] 0 (P 127 20 127 56)) .nil))) 0 (P 127 12 127 57)) (.cons (.tup (.cons (.int 11 0 (P 127 60 127 62)) (.cons (.str [] 0 (P 127 64 127 66)) (.cons (.str [101,110,100,32,98,114,32,98,114,95,105,102,32,98,114,95,116,97,98,108,101,32,114,101,116,117,114,110,32,99,97,108,108,32,99,97,108,108,95,105,110,100,105,114,101,99,116,32,114,101,116,117,114,110,95,99,97,108,108,32,114,101,116,117,114,110,95,99,97,108,108,95,105,110,100,105,114,101,99,116] 0 (P 127 68 127 150)) .nil))) 0 (P 127 59 127 151)) (.cons (.tup (.cons (.int 26 0 (P 127 154 127 156)) (.cons (.str [] 0 (P 127 158 127 160)) (.cons (.str [100,114,111,112,32,115,101,108,101,99,116,32,115,101,108,101,99,116] 0 (P 127 162 127 182)) .nil))) 0 (P 127 153 127 183)) (.cons (.tup (.cons (.int 32 0 (P 127 186 127 188)) (.cons (.str [] 0 (P 127 190 127 192)) (.cons (.str [108,111,99,97,108,46,103,101,116,32,108,111,99,97,108,46,115,101,116,32,108,111,99,97,108,46,116,101,101,32,103,108,111,98,97,108,46,103,101,116,32,103,108,111,98,97,108,46,115,101,116,32,116,97,98,108,101,46,103,101,116,32,116,97,98,108,101,46,115,101,116] 0 (P 127 194 127 267)) .nil))) 0 (P 127 185 127 268)) (.cons (.tup (.cons (.int 40 0 (P 127 271 127 273)) (.cons (.str [] 0 (P 127 275 127 277)) (.cons (.str [105,51,50,46,108,111,97,100,32,105,54,52,46,108,111,97,100,32,102,51,50,46,108,111,97,100,32,102,54,52,46,108,111,97,100] 0 (P 127 279 127 316)) .nil))) 0 (P 127 270 127 317)) (.cons (.tup (.cons (.int 44 0 (P 127 320 127 322)) (.cons (.str [105,51,50,46] 0 (P 127 324 127 330)) (.cons (.str [108,111,97,100,56,95,115,32,108,111,97,100,56,95,117,32,108,111,97,100,49,54,95,115,32,108,111,97,100,49,54,95,117] 0 (P 127 332 127 367)) .nil))) 0 (P 127 319 127 368)) (.cons (.tup (.cons (.int 48 0 (P 127 371 127 373)) (.cons (.str [105,54,52,46] 0 (P 127 375 127 381)) (.cons (.str [108,111,97,100,56,95,115,32,108,111,97,100,56,95,117,32,108,111,97,100,49,54,95,115,32,108,111,97,100,49,54,95,117,32,108,111,97,100,51,50,95,115,32,108,111,97,100,51,50,95,117] 0 (P 127 383 127 436)) .nil))) 0 (P 127 370 127 437)) (.cons (.tup (.cons (.int 54 0 (P 127 440 127 442)) (.cons (.str [] 0 (P 127 444 127 446)) (.cons (.str [105,51,50,46,115,116,111,114,101,32,105,54,52,46,115,116,111,114,101,32,102,51,50,46,115,116,111,114,101,32,102,54,52,46,115,116,111,114,101,32,105,51,50,46,115,116,111,114,101,56,32,105,51,50,46,115,116,111,114,101,49,54] 0 (P 127 448 127 512)) .nil))) 0 (P 127 439 127 513)) (.cons (.tup (.cons (.int 60 0 (P 127 516 127 518)) (.cons (.str [105,54,52,46] 0 (P 127 520 127 526)) (.cons (.str [115,116,111,114,101,56,32,115,116,111,114,101,49,54,32,115,116,111,114,101,51,50] 0 (P 127 528 127 552)) .nil))) 0 (P 127 515 127 553)) (.cons (.tup (.cons (.int 63 0 (P 127 556 127 558)) (.cons (.str [109,101,109,111,114,121,46] 0 (P 127 560 127 569)) (.cons (.str [115,105,122,101,32,103,114,111,119] 0 (P 127 571 127 582)) .nil))) 0 (P 127 555 127 583)) (.cons (.tup (.cons (.int 65 0 (P 127 586 127 588)) (.cons (.str [] 0 (P 127 590 127 592)) (.cons (.str [105,51,50,46,99,111,110,115,116,32,105,54,52,46,99,111,110,115,116,32,102,51,50,46,99,111,110,115,116,32,102,54,52,46,99,111,110,115,116] 0 (P 127 594 127 635)) .nil))) 0 (P 127 585 127 636)) (.cons (.tup (.cons (.int 69 0 (P 127 639 127 641)) (.cons (.str [105,51,50,46] 0 (P 127 643 127 649)) (.cons (.loc 0 (P 127 651 127 656)) .nil))) 0 (P 127 638 127 657)) (.cons (.tup (.cons (.int 80 0 (P 127 660 127 662)) (.cons (.str [105,54,52,46] 0 (P 127 664 127 670)) (.cons (.loc 0 (P 127 672 127 677)) .nil))) 0 (P 127 659 127 678)) (.cons (.tup (.cons (.int 91 0 (P 127 681 127 683)) (.cons (.str [102,51,50,46] 0 (P 127 685 127 691)) (.cons (.str [101,113,32,110,101,32,108,116,32,103,116,32,108,101,32,103,101] 0 (P 127 693 127 712)) .nil))) 0 (P 127 680 127 713)) (.cons (.tup (.cons (.int 97 0 (P 127 716 127 718)) (.cons (.str [102,54,52,46] 0 (P 127 720 127 726)) (.cons (.str [101,113,32,110,101,32,108,116,32,103,116,32,108,101,32,103,101] 0 (P 127 728 127 747)) .nil))) 0 (P 127 715 127 748)) (.cons (.tup (.cons (.int 103 0 (P 127 751 127 754)) (.cons (.str [105,51,50,46] 0 (P 127 756 127 762)) (.cons (.loc 1 (P 127 764 127 769)) .nil))) 0 (P 127 750 127 770)) (.cons (.tup (.cons (.int 121 0 (P 127 773 127 776)) (.cons (.str [105,54,52,46] 0 (P 127 778 127 784)) (.cons (.loc 1 (P 127 786 127 791)) .nil))) 0 (P 127 772 127 792)) (.cons (.tup (.cons (.int 139 0 (P 127 795 127 798)) (.cons (.str [102,51,50,46] 0 (P 127 800 127 806)) (.cons (.loc 2 (P 127 808 127 814)) .nil))) 0 (P 127 794 127 815)) (.cons (.tup (.cons (.int 153 0 (P 127 818 127 821)) (.cons (.str [102,54,52,46] 0 (P 127 823 127 829)) (.cons (.loc 2 (P 127 831 127 837)) .nil))) 0 (P 127 817 127 838)) (.cons (.tup (.cons (.int 167 0 (P 127 841 127 844)) (.cons (.str [105,51,50,46] 0 (P 127 846 127 852)) (.cons (.str [119,114,97,112,95,105,54,52,32,116,114,117,110,99,95,102,51,50,95,115,32,116,114,117,110,99,95,102,51,50,95,117,32,116,114,117,110,99,95,102,54,52,95,115,32,116,114,117,110,99,95,102,54,52,95,117] 0 (P 127 854 127 912)) .nil))) 0 (P 127 840 127 913)) (.cons (.tup (.cons (.int 172 0 (P 127 916 127 919)) (.cons (.str [105,54,52,46] 0 (P 127 921 127 927)) (.cons (.str [101,120,116,101,110,100,95,105,51,50,95,115,32,101,120,116,101,110,100,95,105,51,50,95,117,32,116,114,117,110,99,95,102,51,50,95,115,32,116,114,117,110,99,95,102,51,50,95,117,32,116,114,117,110,99,95,102,54,52,95,115,32,116,114,117,110,99,95,102,54,52,95,117] 0 (P 127 929 127 1004)) .nil))) 0 (P 127 915 127 1005)) (.cons (.tup (.cons (.int 178 0 (P 127 1008 127 1011)) (.cons (.str [102,51,50,46] 0 (P 127 1013 127 1019)) (.cons (.bin (.loc 4 (P 127 1021 127 1026)) .Add (.str [32,100,101,109,111,116,101,95,102,54,52] 0 (P 127 1029 127 1042)) (P 127 1021 127 1042)) .nil))) 0 (P 127 1007 127 1043)) (.cons (.tup (.cons (.int 183 0 (P 127 1046 127 1049)) (.cons (.str [102,54,52,46] 0 (P 127 1051 127 1057)) (.cons (.bin (.loc 4 (P 127 1059 127 1064)) .Add (.str [32,112,114,111,109,111,116,101,95,102,51,50] 0 (P 127 1067 127 1081)) (P 127 1059 127 1081)) .nil))) 0 (P 127 1045 127 1082)) (.cons (.tup (.cons (.int 188 0 (P 127 1085 127 1088)) (.cons (.str [] 0 (P 127 1090 127 1092)) (.cons (.str [105,51,50,46,114,101,105,110,116,101,114,112,114,101,116,95,102,51,50,32,105,54,52,46,114,101,105,110,116,101,114,112,114,101,116,95,102,54,52,32,102,51,50,46,114,101,105,110,116,101,114,112,114,101,116,95,105,51,50,32,102,54,52,46,114,101,105,110,116,101,114,112,114,101,116,95,105,54,52] 0 (P 127 1094 127 1175)) .nil))) 0 (P 127 1084 127 1176)) (.cons (.tup (.cons (.int 192 0 (P 127 1179 127 1182)) (.cons (.str [] 0 (P 127 1184 127 1186)) (.cons (.str [105,51,50,46,101,120,116,101,110,100,56,95,115,32,105,51,50,46,101,120,116,101,110,100,49,54,95,115,32,105,54,52,46,101,120,116,101,110,100,56,95,115,32,105,54,52,46,101,120,116,101,110,100,49,54,95,115,32,105,54,52,46,101,120,116,101,110,100,51,50,95,115] 0 (P 127 1188 127 1262)) .nil))) 0 (P 127 1178 127 1263)) (.cons (.tup (.cons (.int 208 0 (P 127 1266 127 1269)) (.cons (.str [114,101,102,46] 0 (P 127 1271 127 1277)) (.cons (.str [110,117,108,108,32,105,115,95,110,117,108,108,32,102,117,110,99] 0 (P 127 1279 127 1298)) .nil))) 0 (P 127 1265 127 1299)) (.cons (.tup (.cons (.int 64512 0 (P 127 1302 127 1307)) (.cons (.str [105,51,50,46] 0 (P 127 1309 127 1315)) (.cons (.loc 3 (P 127 1317 127 1321)) .nil))) 0 (P 127 1301 127 1322)) (.cons (.tup (.cons (.int 64516 0 (P 127 1325 127 1330)) (.cons (.str [105,54,52,46] 0 (P 127 1332 127 1338)) (.cons (.loc 3 (P 127 1340 127 1344)) .nil))) 0 (P 127 1324 127 1345)) (.cons (.tup (.cons (.int 64520 0 (P 127 1348 127 1353)) (.cons (.str [] 0 (P 127 1355 127 1357)) (.cons (.str [109,101,109,111,114,121,46,105,110,105,116,32,100,97,116,97,46,100,114,111,112,32,109,101,109,111,114,121,46,99,111,112,121,32,109,101,109,111,114,121,46,102,105,108,108,32,116,97,98,108,101,46,105,110,105,116,32,101,108,101,109,46,100,114,111,112,32,116,97,98,108,101,46,99,111,112,121] 0 (P 127 1359 127 1438)) .nil))) 0 (P 127 1347 127 1439)) (.cons (.tup (.cons (.int 64527 0 (P 127 1442 127 1447)) (.cons (.str [116,97,98,108,101,46] 0 (P 127 1449 127 1457)) (.cons (.str [103,114,111,119,32,115,105,122,101,32,102,105,108,108] 0 (P 127 1459 127 1475)) .nil))) 0 (P 127 1441 127 1476)) .nil)))))))))))))))))))))))))))))) (P 127 11 127 1477)) (P 127 4 127 8) (P 127 4 127 1477)) (.cons (.own1 6 .i (P 128 4 128 9) (P 128 12 128 14) (P 128 4 128 14)) (.cons (.fr (.tp [(7, (P 129 8 129 13)), (8, (P 129 15 129 19)), (9, (P 129 21 129 26))] 0 (P 129 8 129 26)) (.loc 5 (P 129 30 129 34)) (.cons (.frE (.tp [(10, (P 130 12 130 13)), (11, (P 130 15 130 19))] 0 (P 130 12 130 19)) (.meth (.loc 9 (P 130 33 130 38)) 1 (.str [32] 0 (P 130 45 130 48)) (P 130 33 130 44) (P 130 33 130 49)) (P 130 23 130 32) (P 130 23 130 50) (.cons (.setI 6 (.bin (.loc 7 (P 131 18 131 23)) .Add (.loc 10 (P 131 26 131 27)) (P 131 18 131 27)) (.bin (.loc 8 (P 131 31 131 35)) .Add (.loc 11 (P 131 38 131 42)) (P 131 31 131 42)) (P 131 12 131 17) (P 131 12 131 28) (P 131 12 131 42)) .nil) (P 130 8 131 42)) .nil) (P 129 4 131 42)) (.cons (.ret (.loc 6 (P 132 11 132 16)) (P 132 4 132 16)) .nil))))))))
noncomputable def fd10 : Fd := ⟨Str.ofString "_law_names", ar10, bd10, sc10, [Str.ofString "tests", Str.ofString "whole", Str.ofString "points", Str.ofString "cuts", Str.ofString "turns", Str.ofString "rows", Str.ofString "names", Str.ofString "first", Str.ofString "head", Str.ofString "words", Str.ofString "k", Str.ofString "word"], 0, [], [], [2]⟩
noncomputable def sc11 : Scope := { kind := .function, names := [(Str.ofString "name", .local)], isGenerator := false, isCoroutine := false, more := [] }
noncomputable def ar11 : Arguments := ⟨[], [⟨Str.ofString "name", none, (P 133 18 133 22)⟩], none, [], [], none, []⟩
noncomputable def bd11 : Ss := .cons (.ret (.bop .Or (.cmp (.str [102,51,50] 0 (P 134 11 134 16)) .In (.loc 0 (P 134 20 134 24)) (P 134 11 134 24)) (.cmp (.str [102,54,52] 0 (P 134 28 134 33)) .In (.loc 0 (P 134 37 134 41)) (P 134 28 134 41)) (P 134 11 134 41)) (P 134 4 134 41)) .nil
noncomputable def fd11 : Fd := ⟨Str.ofString "_law_is_float", ar11, bd11, sc11, [Str.ofString "name"], 1, [], [], []⟩
noncomputable def sc12 : Scope := { kind := .function, names := [(Str.ofString "names", .local), (Str.ofString "codes", .local), (Str.ofString "code", .local), (Str.ofString "_law_is_float", .globalImplicit)], isGenerator := false, isCoroutine := false, more := [] }
noncomputable def ar12 : Arguments := ⟨[], [⟨Str.ofString "names", none, (P 135 15 135 20)⟩], none, [], [], none, []⟩
noncomputable def bd12 : Ss := .cons (.own1 1 .s (P 136 4 136 9) (P 136 12 136 14) (P 136 4 136 14)) (.cons (.fr (.nm 2 (P 137 8 137 12)) (.loc 0 (P 137 16 137 21)) (.cons (.ifs (.bop .And (.not (.call 11 (.cons (.sub (.loc 0 (P 138 29 138 34)) (.loc 2 (P 138 35 138 39)) (P 138 29 138 40)) .nil) (P 138 15 138 28) (P 138 15 138 41)) (P 138 11 138 41)) (.cmp (.sub (.loc 0 (P 138 46 138 51)) (.loc 2 (P 138 52 138 56)) (P 138 46 138 57)) .NotIn (.loc 1 (P 138 65 138 70)) (P 138 46 138 70)) (P 138 11 138 70)) (.cons (.setI 1 (.sub (.loc 0 (P 139 18 139 23)) (.loc 2 (P 139 24 139 28)) (P 139 18 139 29)) (.loc 2 (P 139 33 139 37)) (P 139 12 139 17) (P 139 12 139 30) (P 139 12 139 37)) .nil) .nil (P 138 8 139 37)) .nil) (P 137 4 139 37)) (.cons (.ret (.loc 1 (P 140 11 140 16)) (P 140 4 140 16)) .nil))
noncomputable def fd12 : Fd := ⟨Str.ofString "_law_codes", ar12, bd12, sc12, [Str.ofString "names", Str.ofString "codes", Str.ofString "code"], 1, [], [11], []⟩
noncomputable def sc13 : Scope := { kind := .function, names := [(Str.ofString "code", .local), (Str.ofString "name", .local), (Str.ofString "own", .local), (Str.ofString "place", .local)], isGenerator := false, isCoroutine := false, more := [] }
noncomputable def ar13 : Arguments := ⟨[], [⟨Str.ofString "code", none, (P 141 14 141 18)⟩, ⟨Str.ofString "name", none, (P 141 20 141 24)⟩], none, [], [], none, []⟩
noncomputable def bd13 : Ss := .cons (.ifs (.bop .Or (.cmp (.str [108,111,97,100] 0 (P 142 7 142 13)) .In (.loc 1 (P 142 17 142 21)) (P 142 7 142 21)) (.cmp (.str [115,116,111,114,101] 0 (P 142 25 142 32)) .In (.loc 1 (P 142 36 142 40)) (P 142 25 142 40)) (P 142 7 142 40)) (.cons (.ret (.str [109,101,109,97,114,103] 0 (P 143 15 143 23)) (P 143 8 143 23)) .nil) .nil (P 142 4 143 23)) (.cons (.ifs (.cmp (.loc 1 (P 144 7 144 11)) .In (.lst (.cons (.str [98,108,111,99,107] 0 (P 144 16 144 23)) (.cons (.str [108,111,111,112] 0 (P 144 25 144 31)) (.cons (.str [105,102] 0 (P 144 33 144 37)) .nil))) (P 144 15 144 38)) (P 144 7 144 38)) (.cons (.ret (.str [98,108,111,99,107] 0 (P 145 15 145 22)) (P 145 8 145 22)) .nil) .nil (P 144 4 145 22)) (.cons (.ifs (.cmp (.loc 1 (P 146 7 146 11)) .In (.lst (.cons (.str [98,114] 0 (P 146 16 146 20)) (.cons (.str [98,114,95,105,102] 0 (P 146 22 146 29)) .nil)) (P 146 15 146 30)) (P 146 7 146 30)) (.cons (.ret (.str [108,97,98,101,108] 0 (P 147 15 147 22)) (P 147 8 147 22)) .nil) .nil (P 146 4 147 22)) (.cons (.ifs (.cmp (.loc 1 (P 148 7 148 11)) .In (.lst (.cons (.str [99,97,108,108] 0 (P 148 16 148 22)) (.cons (.str [114,101,116,117,114,110,95,99,97,108,108] 0 (P 148 24 148 37)) (.cons (.str [114,101,102,46,102,117,110,99] 0 (P 148 39 148 49)) .nil))) (P 148 15 148 50)) (P 148 7 148 50)) (.cons (.ret (.str [102,117,110,99] 0 (P 149 15 149 21)) (P 149 8 149 21)) .nil) .nil (P 148 4 149 21)) (.cons (.ifs (.cmp (.str [105,110,100,105,114,101,99,116] 0 (P 150 7 150 17)) .In (.loc 1 (P 150 21 150 25)) (P 150 7 150 25)) (.cons (.ret (.str [105,110,100,105,114,101,99,116] 0 (P 151 15 151 25)) (P 151 8 151 25)) .nil) .nil (P 150 4 151 25)) (.cons (.ifs (.cmp (.str [99,111,110,115,116] 0 (P 152 7 152 14)) .In (.loc 1 (P 152 18 152 22)) (P 152 7 152 22)) (.cons (.ret (.slTo (.loc 1 (P 153 15 153 19)) (.int 3 0 (P 153 21 153 22)) (P 153 20 153 22) (P 153 15 153 23)) (P 153 8 153 23)) .nil) .nil (P 152 4 153 23)) (.cons (.ifs (.cmp (.loc 1 (P 154 7 154 11)) .In (.lst (.cons (.str [116,97,98,108,101,46,105,110,105,116] 0 (P 154 16 154 28)) (.cons (.str [116,97,98,108,101,46,99,111,112,121] 0 (P 154 30 154 42)) (.cons (.str [109,101,109,111,114,121,46,105,110,105,116] 0 (P 154 44 154 57)) .nil))) (P 154 15 154 58)) (P 154 7 154 58)) (.cons (.ret (.repl (.loc 1 (P 155 15 155 19)) [46] [95] 0 0 (P 155 28 155 31) (P 155 33 155 36) (P 155 15 155 27) (P 155 15 155 37)) (P 155 8 155 37)) .nil) .nil (P 154 4 155 37)) (.cons (.asg 2 (.dctS [([98,114,95,116,97,98,108,101], 0, (P 156 11 156 21)), ([114,101,102,46,110,117,108,108], 0, (P 156 33 156 43)), ([109,101,109,111,114,121,46,99,111,112,121], 0, (P 156 56 156 69))] [([108,97,98,101,108,115], 0, (P 156 23 156 31)), ([114,101,102,107,105,110,100], 0, (P 156 45 156 54)), ([116,119,111,95,109,101,109,111,114,105,101,115], 0, (P 156 71 156 85))] (P 156 10 156 86)) (P 156 4 156 7) (P 156 4 156 86)) (.cons (.ifs (.cmp (.loc 1 (P 157 7 157 11)) .In (.loc 2 (P 157 15 157 18)) (P 157 7 157 18)) (.cons (.ret (.sub (.loc 2 (P 158 15 158 18)) (.loc 1 (P 158 19 158 23)) (P 158 15 158 24)) (P 158 8 158 24)) .nil) .nil (P 157 4 158 24)) (.cons (.asg 3 (.sub (.meth (.loc 1 (P 159 12 159 16)) 1 (.str [46] 0 (P 159 23 159 26)) (P 159 12 159 22) (P 159 12 159 27)) (.int 0 0 (P 159 28 159 29)) (P 159 12 159 30)) (P 159 4 159 9) (P 159 4 159 30)) (.cons (.ifs (.cmp (.loc 3 (P 160 7 160 12)) .In (.lst (.cons (.str [108,111,99,97,108] 0 (P 160 17 160 24)) (.cons (.str [103,108,111,98,97,108] 0 (P 160 26 160 34)) (.cons (.str [116,97,98,108,101] 0 (P 160 36 160 43)) (.cons (.str [109,101,109,111,114,121] 0 (P 160 45 160 53)) (.cons (.str [100,97,116,97] 0 (P 160 55 160 61)) (.cons (.str [101,108,101,109] 0 (P 160 63 160 69)) .nil)))))) (P 160 16 160 70)) (P 160 7 160 70)) (.cons (.ret (.loc 3 (P 161 15 161 20)) (P 161 8 161 20)) .nil) .nil (P 160 4 161 20)) (.cons (.ret (.ite (.cmp (.loc 0 (P 162 22 162 26)) .Eq (.int 28 0 (P 162 30 162 32)) (P 162 22 162 32)) (.str [107,105,110,100,115] 0 (P 162 11 162 18)) (.str [110,111,110,101] 0 (P 162 38 162 44)) (P 162 11 162 44)) (P 162 4 162 44)) .nil)))))))))))
noncomputable def fd13 : Fd := ⟨Str.ofString "_law_form", ar13, bd13, sc13, [Str.ofString "code", Str.ofString "name", Str.ofString "own", Str.ofString "place"], 2, [], [], []⟩
noncomputable def sc14 : Scope := { kind := .function, names := [(Str.ofString "name", .local), (Str.ofString "parts", .local), (Str.ofString "place", .local), (Str.ofString "act", .local), (Str.ofString "kind", .local), (Str.ofString "len", .globalImplicit)], isGenerator := false, isCoroutine := false, more := [] }
noncomputable def ar14 : Arguments := ⟨[], [⟨Str.ofString "name", none, (P 163 15 163 19)⟩], none, [], [], none, []⟩
noncomputable def bd14 : Ss := .cons (.asg 1 (.meth (.loc 0 (P 164 12 164 16)) 1 (.str [46] 0 (P 164 23 164 26)) (P 164 12 164 22) (P 164 12 164 27)) (P 164 4 164 9) (P 164 4 164 27)) (.cons (.ifs (.cmp (.len (.loc 1 (P 165 11 165 16)) (P 165 7 165 10) (P 165 7 165 17)) .Eq (.int 1 0 (P 165 21 165 22)) (P 165 7 165 22)) (.cons (.ret (.ite (.cmp (.loc 0 (P 166 27 166 31)) .Eq (.str [110,111,112] 0 (P 166 35 166 40)) (P 166 27 166 40)) (.tup (.cons (.tup .nil 0 (P 166 16 166 18)) (.cons (.tup .nil 0 (P 166 20 166 22)) .nil)) 0 (P 166 15 166 23)) (.none 0 (P 166 46 166 50)) (P 166 15 166 50)) (P 166 8 166 50)) .nil) .nil (P 165 4 166 50)) (.cons (.asgT [(2, (P 167 4 167 9)), (3, (P 167 11 167 14))] 0 (P 167 4 167 14) (.loc 1 (P 167 17 167 22)) (P 167 4 167 22)) (.cons (.ifs (.cmp (.loc 2 (P 168 7 168 12)) .In (.lst (.cons (.str [109,101,109,111,114,121] 0 (P 168 17 168 25)) (.cons (.str [116,97,98,108,101] 0 (P 168 27 168 34)) (.cons (.str [100,97,116,97] 0 (P 168 36 168 42)) (.cons (.str [101,108,101,109] 0 (P 168 44 168 50)) .nil)))) (P 168 16 168 51)) (P 168 7 168 51)) (.cons (.ifs (.bop .Or (.cmp (.loc 3 (P 169 11 169 14)) .In (.lst (.cons (.str [105,110,105,116] 0 (P 169 19 169 25)) (.cons (.str [99,111,112,121] 0 (P 169 27 169 33)) .nil)) (P 169 18 169 34)) (P 169 11 169 34)) (.cmp (.loc 0 (P 169 38 169 42)) .Eq (.str [109,101,109,111,114,121,46,102,105,108,108] 0 (P 169 46 169 59)) (P 169 38 169 59)) (P 169 11 169 59)) (.cons (.ret (.tup (.cons (.tup (.cons (.neg 1 0 (P 170 22 170 23) (P 170 21 170 23)) (.cons (.neg 1 0 (P 170 26 170 27) (P 170 25 170 27)) (.cons (.neg 1 0 (P 170 30 170 31) (P 170 29 170 31)) .nil))) 0 (P 170 20 170 32)) (.cons (.tup .nil 0 (P 170 34 170 36)) .nil)) 0 (P 170 19 170 37)) (P 170 12 170 37)) .nil) .nil (P 169 8 170 37)) (.cons (.ifs (.cmp (.loc 3 (P 171 11 171 14)) .Eq (.str [100,114,111,112] 0 (P 171 18 171 24)) (P 171 11 171 24)) (.cons (.ret (.tup (.cons (.tup .nil 0 (P 172 20 172 22)) (.cons (.tup .nil 0 (P 172 24 172 26)) .nil)) 0 (P 172 19 172 27)) (P 172 12 172 27)) .nil) .nil (P 171 8 172 27)) (.cons (.ifs (.cmp (.loc 3 (P 173 11 173 14)) .Eq (.str [115,105,122,101] 0 (P 173 18 173 24)) (P 173 11 173 24)) (.cons (.ret (.tup (.cons (.tup .nil 0 (P 174 20 174 22)) (.cons (.tup (.cons (.neg 1 0 (P 174 26 174 27) (P 174 25 174 27)) .nil) 0 (P 174 24 174 29)) .nil)) 0 (P 174 19 174 30)) (P 174 12 174 30)) .nil) .nil (P 173 8 174 30)) (.cons (.ret (.ite (.cmp (.loc 0 (P 175 33 175 37)) .Eq (.str [109,101,109,111,114,121,46,103,114,111,119] 0 (P 175 41 175 54)) (P 175 33 175 54)) (.tup (.cons (.tup (.cons (.neg 1 0 (P 175 18 175 19) (P 175 17 175 19)) .nil) 0 (P 175 16 175 21)) (.cons (.tup (.cons (.neg 1 0 (P 175 25 175 26) (P 175 24 175 26)) .nil) 0 (P 175 23 175 28)) .nil)) 0 (P 175 15 175 29)) (.none 0 (P 175 60 175 64)) (P 175 15 175 64)) (P 175 8 175 64)) .nil)))) .nil (P 168 4 175 64)) (.cons (.ifs (.cmp (.loc 2 (P 176 7 176 12)) .NotIn (.lst (.cons (.str [105,51,50] 0 (P 176 21 176 26)) (.cons (.str [105,54,52] 0 (P 176 28 176 33)) .nil)) (P 176 20 176 34)) (P 176 7 176 34)) (.cons (.ret (.ite (.cmp (.loc 0 (P 177 31 177 35)) .Eq (.str [114,101,102,46,102,117,110,99] 0 (P 177 39 177 49)) (P 177 31 177 49)) (.tup (.cons (.tup .nil 0 (P 177 16 177 18)) (.cons (.tup (.cons (.neg 16 0 (P 177 22 177 24) (P 177 21 177 24)) .nil) 0 (P 177 20 177 26)) .nil)) 0 (P 177 15 177 27)) (.none 0 (P 177 55 177 59)) (P 177 15 177 59)) (P 177 8 177 59)) .nil) .nil (P 176 4 177 59)) (.cons (.asg 4 (.ite (.cmp (.loc 2 (P 178 17 178 22)) .Eq (.str [105,51,50] 0 (P 178 26 178 31)) (P 178 17 178 31)) (.neg 1 0 (P 178 12 178 13) (P 178 11 178 13)) (.neg 2 0 (P 178 38 178 39) (P 178 37 178 39)) (P 178 11 178 39)) (P 178 4 178 8) (P 178 4 178 39)) (.cons (.ifs (.cmp (.loc 3 (P 179 7 179 10)) .Eq (.str [99,111,110,115,116] 0 (P 179 14 179 21)) (P 179 7 179 21)) (.cons (.ret (.tup (.cons (.tup .nil 0 (P 180 16 180 18)) (.cons (.tup (.cons (.loc 4 (P 180 21 180 25)) .nil) 0 (P 180 20 180 27)) .nil)) 0 (P 180 15 180 28)) (P 180 8 180 28)) .nil) .nil (P 179 4 180 28)) (.cons (.ifs (.cmp (.slTo (.loc 3 (P 181 7 181 10)) (.int 4 0 (P 181 12 181 13)) (P 181 11 181 13) (P 181 7 181 14)) .Eq (.str [108,111,97,100] 0 (P 181 18 181 24)) (P 181 7 181 24)) (.cons (.ret (.tup (.cons (.tup (.cons (.neg 1 0 (P 182 18 182 19) (P 182 17 182 19)) .nil) 0 (P 182 16 182 21)) (.cons (.tup (.cons (.loc 4 (P 182 24 182 28)) .nil) 0 (P 182 23 182 30)) .nil)) 0 (P 182 15 182 31)) (P 182 8 182 31)) .nil) .nil (P 181 4 182 31)) (.cons (.ifs (.cmp (.slTo (.loc 3 (P 183 7 183 10)) (.int 5 0 (P 183 12 183 13)) (P 183 11 183 13) (P 183 7 183 14)) .Eq (.str [115,116,111,114,101] 0 (P 183 18 183 25)) (P 183 7 183 25)) (.cons (.ret (.tup (.cons (.tup (.cons (.neg 1 0 (P 184 18 184 19) (P 184 17 184 19)) (.cons (.loc 4 (P 184 21 184 25)) .nil)) 0 (P 184 16 184 26)) (.cons (.tup .nil 0 (P 184 28 184 30)) .nil)) 0 (P 184 15 184 31)) (P 184 8 184 31)) .nil) .nil (P 183 4 184 31)) (.cons (.ifs (.cmp (.loc 3 (P 185 7 185 10)) .Eq (.str [119,114,97,112,95,105,54,52] 0 (P 185 14 185 24)) (P 185 7 185 24)) (.cons (.ret (.tup (.cons (.tup (.cons (.neg 2 0 (P 186 18 186 19) (P 186 17 186 19)) .nil) 0 (P 186 16 186 21)) (.cons (.tup (.cons (.neg 1 0 (P 186 25 186 26) (P 186 24 186 26)) .nil) 0 (P 186 23 186 28)) .nil)) 0 (P 186 15 186 29)) (P 186 8 186 29)) .nil) .nil (P 185 4 186 29)) (.cons (.ifs (.cmp (.slTo (.loc 3 (P 187 7 187 10)) (.int 10 0 (P 187 12 187 14)) (P 187 11 187 14) (P 187 7 187 15)) .Eq (.str [101,120,116,101,110,100,95,105,51,50] 0 (P 187 19 187 31)) (P 187 7 187 31)) (.cons (.ret (.tup (.cons (.tup (.cons (.neg 1 0 (P 188 18 188 19) (P 188 17 188 19)) .nil) 0 (P 188 16 188 21)) (.cons (.tup (.cons (.neg 2 0 (P 188 25 188 26) (P 188 24 188 26)) .nil) 0 (P 188 23 188 28)) .nil)) 0 (P 188 15 188 29)) (P 188 8 188 29)) .nil) .nil (P 187 4 188 29)) (.cons (.ifs (.bop .Or (.cmp (.slTo (.loc 3 (P 189 7 189 10)) (.int 6 0 (P 189 12 189 13)) (P 189 11 189 13) (P 189 7 189 14)) .Eq (.str [101,120,116,101,110,100] 0 (P 189 18 189 26)) (P 189 7 189 26)) (.cmp (.loc 3 (P 189 30 189 33)) .In (.lst (.cons (.str [99,108,122] 0 (P 189 38 189 43)) (.cons (.str [99,116,122] 0 (P 189 45 189 50)) (.cons (.str [112,111,112,99,110,116] 0 (P 189 52 189 60)) .nil))) (P 189 37 189 61)) (P 189 30 189 61)) (P 189 7 189 61)) (.cons (.ret (.tup (.cons (.tup (.cons (.loc 4 (P 190 17 190 21)) .nil) 0 (P 190 16 190 23)) (.cons (.tup (.cons (.loc 4 (P 190 26 190 30)) .nil) 0 (P 190 25 190 32)) .nil)) 0 (P 190 15 190 33)) (P 190 8 190 33)) .nil) .nil (P 189 4 190 33)) (.cons (.ifs (.cmp (.loc 3 (P 191 7 191 10)) .Eq (.str [101,113,122] 0 (P 191 14 191 19)) (P 191 7 191 19)) (.cons (.ret (.tup (.cons (.tup (.cons (.loc 4 (P 192 17 192 21)) .nil) 0 (P 192 16 192 23)) (.cons (.tup (.cons (.neg 1 0 (P 192 27 192 28) (P 192 26 192 28)) .nil) 0 (P 192 25 192 30)) .nil)) 0 (P 192 15 192 31)) (P 192 8 192 31)) .nil) .nil (P 191 4 192 31)) (.cons (.ifs (.cmp (.slTo (.loc 3 (P 193 7 193 10)) (.int 2 0 (P 193 12 193 13)) (P 193 11 193 13) (P 193 7 193 14)) .In (.lst (.cons (.str [101,113] 0 (P 193 19 193 23)) (.cons (.str [110,101] 0 (P 193 25 193 29)) (.cons (.str [108,116] 0 (P 193 31 193 35)) (.cons (.str [103,116] 0 (P 193 37 193 41)) (.cons (.str [108,101] 0 (P 193 43 193 47)) (.cons (.str [103,101] 0 (P 193 49 193 53)) .nil)))))) (P 193 18 193 54)) (P 193 7 193 54)) (.cons (.ret (.tup (.cons (.tup (.cons (.loc 4 (P 194 17 194 21)) (.cons (.loc 4 (P 194 23 194 27)) .nil)) 0 (P 194 16 194 28)) (.cons (.tup (.cons (.neg 1 0 (P 194 32 194 33) (P 194 31 194 33)) .nil) 0 (P 194 30 194 35)) .nil)) 0 (P 194 15 194 36)) (P 194 8 194 36)) .nil) .nil (P 193 4 194 36)) (.cons (.ret (.tup (.cons (.tup (.cons (.loc 4 (P 195 13 195 17)) (.cons (.loc 4 (P 195 19 195 23)) .nil)) 0 (P 195 12 195 24)) (.cons (.tup (.cons (.loc 4 (P 195 27 195 31)) .nil) 0 (P 195 26 195 33)) .nil)) 0 (P 195 11 195 34)) (P 195 4 195 34)) .nil))))))))))))))
noncomputable def fd14 : Fd := ⟨Str.ofString "_law_stack", ar14, bd14, sc14, [Str.ofString "name", Str.ofString "parts", Str.ofString "place", Str.ofString "act", Str.ofString "kind"], 1, [], [], [0]⟩
noncomputable def sc15 : Scope := { kind := .function, names := [(Str.ofString "code", .local), (Str.ofString "name", .local), (Str.ofString "act", .local), (Str.ofString "is_load", .local), (Str.ofString "is_store", .local), (Str.ofString "kind", .local), (Str.ofString "power", .local), (Str.ofString "k", .local), (Str.ofString "bits", .local), (Str.ofString "load", .local), (Str.ofString "store", .local), (Str.ofString "enumerate", .globalImplicit), (Str.ofString "LOADS", .globalImplicit), (Str.ofString "STORES", .globalImplicit), (Str.ofString "natural", .globalImplicit)], isGenerator := false, isCoroutine := false, more := [] }
noncomputable def ar15 : Arguments := ⟨[], [⟨Str.ofString "code", none, (P 196 19 196 23)⟩, ⟨Str.ofString "name", none, (P 196 25 196 29)⟩], none, [], [], none, []⟩
noncomputable def bd15 : Ss := .cons (.asg 2 (.slFr (.loc 1 (P 197 10 197 14)) (.int 4 0 (P 197 15 197 16)) (P 197 15 197 17) (P 197 10 197 18)) (P 197 4 197 7) (P 197 4 197 18)) (.cons (.asgX [(3, (P 198 4 198 11)), (4, (P 198 13 198 21))] 0 (P 198 4 198 21) (.tup (.cons (.cmp (.slTo (.loc 2 (P 198 25 198 28)) (.int 4 0 (P 198 30 198 31)) (P 198 29 198 31) (P 198 25 198 32)) .Eq (.str [108,111,97,100] 0 (P 198 36 198 42)) (P 198 25 198 42)) (.cons (.cmp (.slTo (.loc 2 (P 198 44 198 47)) (.int 5 0 (P 198 49 198 50)) (P 198 48 198 50) (P 198 44 198 51)) .Eq (.str [115,116,111,114,101] 0 (P 198 55 198 62)) (P 198 44 198 62)) .nil)) 0 (P 198 24 198 63)) (P 198 4 198 63)) (.cons (.asgT [(5, (P 199 4 199 8)), (6, (P 199 10 199 15))] 0 (P 199 4 199 15) (.ite (.cmp (.slTo (.loc 1 (P 199 29 199 33)) (.int 3 0 (P 199 35 199 36)) (P 199 34 199 36) (P 199 29 199 37)) .Eq (.str [105,51,50] 0 (P 199 41 199 46)) (P 199 29 199 46)) (.tup (.cons (.neg 1 0 (P 199 20 199 21) (P 199 19 199 21)) (.cons (.int 2 0 (P 199 23 199 24)) .nil)) 0 (P 199 18 199 25)) (.tup (.cons (.neg 2 0 (P 199 54 199 55) (P 199 53 199 55)) (.cons (.int 3 0 (P 199 57 199 58)) .nil)) 0 (P 199 52 199 59)) (P 199 18 199 59)) (P 199 4 199 59)) (.cons (.frE (.tp [(7, (P 200 8 200 9)), (8, (P 200 11 200 15))] 0 (P 200 8 200 15)) (.lst (.cons (.str [56] 0 (P 200 30 200 33)) (.cons (.str [49,54] 0 (P 200 35 200 39)) (.cons (.str [51,50] 0 (P 200 41 200 45)) .nil))) (P 200 29 200 46)) (P 200 19 200 28) (P 200 19 200 47) (.cons (.ifs (.cmp (.loc 8 (P 201 11 201 15)) .In (.loc 2 (P 201 19 201 22)) (P 201 11 201 22)) (.cons (.asg 6 (.loc 7 (P 202 20 202 21)) (P 202 12 202 17) (P 202 12 202 21)) .nil) .nil (P 201 8 202 21)) .nil) (P 200 4 202 21)) (.cons (.asg 9 (.ite (.loc 3 (P 203 63 203 70)) (.tup (.cons (.loc 5 (P 203 12 203 16)) (.cons (.bin (.int 2 0 (P 203 18 203 19)) .Pow (.loc 6 (P 203 23 203 28)) (P 203 18 203 28)) (.cons (.ite (.cmp (.slFr (.loc 2 (P 203 35 203 38)) (.neg 2 0 (P 203 40 203 41) (P 203 39 203 41)) (P 203 39 203 42) (P 203 35 203 43)) .Eq (.str [95,115] 0 (P 203 47 203 51)) (P 203 35 203 51)) (.int 1 0 (P 203 30 203 31)) (.int 0 0 (P 203 57 203 58)) (P 203 30 203 58)) .nil))) 0 (P 203 11 203 59)) (.none 0 (P 203 76 203 80)) (P 203 11 203 80)) (P 203 4 203 8) (P 203 4 203 80)) (.cons (.asg 10 (.ite (.loc 4 (P 204 34 204 42)) (.tup (.cons (.loc 5 (P 204 13 204 17)) (.cons (.bin (.int 2 0 (P 204 19 204 20)) .Pow (.loc 6 (P 204 24 204 29)) (P 204 19 204 29)) .nil)) 0 (P 204 12 204 30)) (.none 0 (P 204 48 204 52)) (P 204 12 204 52)) (P 204 4 204 9) (P 204 4 204 52)) (.cons (.ifs (.bop .Or (.cmp (.meth (.glo 0 (P 205 7 205 12)) 0 (.loc 0 (P 205 17 205 21)) (P 205 7 205 16) (P 205 7 205 22)) .NotEq (.loc 9 (P 205 26 205 30)) (P 205 7 205 30)) (.cmp (.meth (.glo 1 (P 205 34 205 40)) 0 (.loc 0 (P 205 45 205 49)) (P 205 34 205 44) (P 205 34 205 50)) .NotEq (.loc 10 (P 205 54 205 59)) (P 205 34 205 59)) (P 205 7 205 59)) (.cons (.ret (.bool false 0 (P 206 15 206 20)) (P 206 8 206 20)) .nil) .nil (P 205 4 206 20)) (.cons (.ret (.ite (.bop .Or (.loc 3 (P 207 37 207 44)) (.loc 4 (P 207 48 207 56)) (P 207 37 207 56)) (.cmp (.call 3 (.cons (.loc 0 (P 207 19 207 23)) .nil) (P 207 11 207 18) (P 207 11 207 24)) .Eq (.loc 6 (P 207 28 207 33)) (P 207 11 207 33)) (.bool true 0 (P 207 62 207 66)) (P 207 11 207 66)) (P 207 4 207 66)) .nil)))))))
noncomputable def fd15 : Fd := ⟨Str.ofString "_law_is_access", ar15, bd15, sc15, [Str.ofString "code", Str.ofString "name", Str.ofString "act", Str.ofString "is_load", Str.ofString "is_store", Str.ofString "kind", Str.ofString "power", Str.ofString "k", Str.ofString "bits", Str.ofString "load", Str.ofString "store"], 2, [0, 1], [3], [2]⟩
noncomputable def sc16 : Scope := { kind := .function, names := [(Str.ofString "code", .local), (Str.ofString "names", .local), (Str.ofString "codes", .local), (Str.ofString "name", .local), (Str.ofString "is_left", .local), (Str.ofString "_law_is_float", .globalImplicit), (Str.ofString "name_of", .globalImplicit), (Str.ofString "is_left_out", .globalImplicit), (Str.ofString "code_of", .globalImplicit), (Str.ofString "is_left_word", .globalImplicit), (Str.ofString "form_of", .globalImplicit), (Str.ofString "stack_of", .globalImplicit), (Str.ofString "is_block", .globalImplicit), (Str.ofString "LOADS", .globalImplicit), (Str.ofString "STORES", .globalImplicit), (Str.ofString "_law_form", .globalImplicit), (Str.ofString "_law_stack", .globalImplicit), (Str.ofString "_law_is_access", .globalImplicit)], isGenerator := false, isCoroutine := false, more := [] }
noncomputable def ar16 : Arguments := ⟨[], [⟨Str.ofString "code", none, (P 208 17 208 21)⟩, ⟨Str.ofString "names", none, (P 208 23 208 28)⟩, ⟨Str.ofString "codes", none, (P 208 30 208 35)⟩], none, [], [], none, []⟩
noncomputable def bd16 : Ss := .cons (.asg 3 (.meth (.loc 1 (P 209 11 209 16)) 0 (.loc 0 (P 209 21 209 25)) (P 209 11 209 20) (P 209 11 209 26)) (P 209 4 209 8) (P 209 4 209 26)) (.cons (.asg 4 (.bop .And (.cmp (.loc 3 (P 210 14 210 18)) .IsNot (.none 0 (P 210 26 210 30)) (P 210 14 210 30)) (.call 11 (.cons (.loc 3 (P 210 49 210 53)) .nil) (P 210 35 210 48) (P 210 35 210 54)) (P 210 14 210 54)) (P 210 4 210 11) (P 210 4 210 54)) (.cons (.ifs (.bop .Or (.cmp (.call 7 (.cons (.loc 0 (P 211 15 211 19)) .nil) (P 211 7 211 14) (P 211 7 211 20)) .NotEq (.ite (.loc 4 (P 211 33 211 40)) (.none 0 (P 211 25 211 29)) (.loc 3 (P 211 46 211 50)) (P 211 25 211 50)) (P 211 7 211 51)) (.cmp (.call 5 (.cons (.loc 0 (P 211 67 211 71)) .nil) (P 211 55 211 66) (P 211 55 211 72)) .NotEq (.bop .Or (.loc 4 (P 211 77 211 84)) (.cmp (.loc 0 (P 211 88 211 92)) .Eq (.int 253 0 (P 211 96 211 99)) (P 211 88 211 99)) (P 211 77 211 99)) (P 211 55 211 100)) (P 211 7 211 100)) (.cons (.ret (.bool false 0 (P 212 15 212 20)) (P 212 8 212 20)) .nil) .nil (P 211 4 212 20)) (.cons (.ifs (.bop .And (.cmp (.loc 3 (P 213 7 213 11)) .IsNot (.none 0 (P 213 19 213 23)) (P 213 7 213 23)) (.bop .Or (.cmp (.call 8 (.cons (.loc 3 (P 213 37 213 41)) .nil) (P 213 29 213 36) (P 213 29 213 42)) .NotEq (.meth (.loc 2 (P 213 46 213 51)) 0 (.loc 3 (P 213 56 213 60)) (P 213 46 213 55) (P 213 46 213 61)) (P 213 29 213 61)) (.cmp (.call 9 (.cons (.loc 3 (P 213 78 213 82)) .nil) (P 213 65 213 77) (P 213 65 213 83)) .NotEq (.loc 4 (P 213 87 213 94)) (P 213 65 213 94)) (P 213 29 213 94)) (P 213 7 213 95)) (.cons (.ret (.bool false 0 (P 214 15 214 20)) (P 214 8 214 20)) .nil) .nil (P 213 4 214 20)) (.cons (.ifs (.bop .Or (.cmp (.loc 3 (P 215 7 215 11)) .Is (.none 0 (P 215 15 215 19)) (P 215 7 215 19)) (.loc 4 (P 215 23 215 30)) (P 215 7 215 30)) (.cons (.ifs (.bop3 .Or (.cmp (.call 1 (.cons (.loc 0 (P 216 19 216 23)) .nil) (P 216 11 216 18) (P 216 11 216 24)) .IsNot (.none 0 (P 216 32 216 36)) (P 216 11 216 36)) (.cmp (.call 2 (.cons (.loc 0 (P 216 49 216 53)) .nil) (P 216 40 216 48) (P 216 40 216 54)) .IsNot (.none 0 (P 216 62 216 66)) (P 216 40 216 66)) (.call 4 (.cons (.loc 0 (P 216 79 216 83)) .nil) (P 216 70 216 78) (P 216 70 216 84)) (P 216 11 216 84)) (.cons (.ret (.bool false 0 (P 217 19 217 24)) (P 217 12 217 24)) .nil) .nil (P 216 8 217 24)) (.cons (.ret (.bop .And (.cmp (.loc 0 (P 218 15 218 19)) .NotIn (.glo 0 (P 218 27 218 32)) (P 218 15 218 32)) (.cmp (.loc 0 (P 218 37 218 41)) .NotIn (.glo 1 (P 218 49 218 55)) (P 218 37 218 55)) (P 218 15 218 55)) (P 218 8 218 55)) .nil)) .nil (P 215 4 218 55)) (.cons (.ifs (.bop .Or (.cmp (.call 1 (.cons (.loc 0 (P 219 15 219 19)) .nil) (P 219 7 219 14) (P 219 7 219 20)) .NotEq (.call 13 (.cons (.loc 0 (P 219 34 219 38)) (.cons (.loc 3 (P 219 40 219 44)) .nil)) (P 219 24 219 33) (P 219 24 219 45)) (P 219 7 219 45)) (.cmp (.call 2 (.cons (.loc 0 (P 219 58 219 62)) .nil) (P 219 49 219 57) (P 219 49 219 63)) .NotEq (.call 14 (.cons (.loc 3 (P 219 78 219 82)) .nil) (P 219 67 219 77) (P 219 67 219 83)) (P 219 49 219 83)) (P 219 7 219 83)) (.cons (.ret (.bool false 0 (P 220 15 220 20)) (P 220 8 220 20)) .nil) .nil (P 219 4 220 20)) (.cons (.ret (.bop .And (.cmp (.call 4 (.cons (.loc 0 (P 221 20 221 24)) .nil) (P 221 11 221 19) (P 221 11 221 25)) .Eq (.cmp (.loc 3 (P 221 30 221 34)) .In (.lst (.cons (.str [98,108,111,99,107] 0 (P 221 39 221 46)) (.cons (.str [108,111,111,112] 0 (P 221 48 221 54)) (.cons (.str [105,102] 0 (P 221 56 221 60)) .nil))) (P 221 38 221 61)) (P 221 30 221 61)) (P 221 11 221 62)) (.call 15 (.cons (.loc 0 (P 221 82 221 86)) (.cons (.loc 3 (P 221 88 221 92)) .nil)) (P 221 67 221 81) (P 221 67 221 93)) (P 221 11 221 93)) (P 221 4 221 93)) .nil))))))
noncomputable def fd16 : Fd := ⟨Str.ofString "_law_is_told", ar16, bd16, sc16, [Str.ofString "code", Str.ofString "names", Str.ofString "codes", Str.ofString "name", Str.ofString "is_left"], 3, [0, 1], [1, 2, 4, 5, 7, 8, 9, 11, 13, 14, 15], []⟩
noncomputable def sc17 : Scope := { kind := .function, names := [(Str.ofString "number", .local), (Str.ofString "near", .local)], isGenerator := false, isCoroutine := false, more := [] }
noncomputable def ar17 : Arguments := ⟨[], [⟨Str.ofString "number", none, (P 222 15 222 21)⟩], none, [], [], none, []⟩
noncomputable def bd17 : Ss := .cons (.asg 1 (.sub (.lst (.cons (.int 2 0 (P 223 12 223 13)) (.cons (.int 3 0 (P 223 15 223 16)) (.cons (.int 4 0 (P 223 18 223 19)) (.cons (.int 5 0 (P 223 21 223 22)) (.cons (.int 11 0 (P 223 24 223 26)) .nil))))) (P 223 11 223 27)) (.bin (.bin (.loc 0 (P 223 28 223 34)) .FloorDiv (.int 11 0 (P 223 38 223 40)) (P 223 28 223 40)) .Mod (.int 5 0 (P 223 43 223 44)) (P 223 28 223 44)) (P 223 11 223 45)) (P 223 4 223 8) (P 223 4 223 45)) (.cons (.ret (.sub (.lst (.cons (.tup (.cons (.int 1 0 (P 224 13 224 14)) .nil) 0 (P 224 12 224 16)) (.cons (.tup (.cons (.int 12 0 (P 224 19 224 21)) (.cons (.loc 1 (P 224 23 224 27)) .nil)) 0 (P 224 18 224 28)) (.cons (.tup (.cons (.int 14 0 (P 224 31 224 33)) (.cons (.loc 1 (P 224 35 224 39)) (.cons (.int 11 0 (P 224 41 224 43)) (.cons (.int 4 0 (P 224 45 224 46)) .nil)))) 0 (P 224 30 224 47)) (.cons (.tup (.cons (.int 17 0 (P 224 50 224 52)) (.cons (.loc 1 (P 224 54 224 58)) (.cons (.int 5 0 (P 224 60 224 61)) .nil))) 0 (P 224 49 224 62)) (.cons (.tup (.cons (.int 28 0 (P 224 65 224 67)) (.cons (.neg 1 0 (P 224 70 224 71) (P 224 69 224 71)) .nil)) 0 (P 224 64 224 72)) (.cons (.tup (.cons (.int 32 0 (P 224 75 224 77)) (.cons (.loc 1 (P 224 79 224 83)) .nil)) 0 (P 224 74 224 84)) (.cons (.tup (.cons (.int 40 0 (P 224 87 224 89)) (.cons (.int 2 0 (P 224 91 224 92)) (.cons (.loc 1 (P 224 94 224 98)) .nil))) 0 (P 224 86 224 99)) (.cons (.tup (.cons (.int 65 0 (P 224 102 224 104)) (.cons (.loc 1 (P 224 106 224 110)) .nil)) 0 (P 224 101 224 111)) (.cons (.tup (.cons (.int 66 0 (P 224 114 224 116)) (.cons (.loc 1 (P 224 118 224 122)) .nil)) 0 (P 224 113 224 123)) (.cons (.tup (.cons (.int 64523 0 (P 224 126 224 131)) .nil) 0 (P 224 125 224 133)) (.cons (.tup (.cons (.int 64524 0 (P 224 136 224 141)) (.cons (.loc 1 (P 224 143 224 147)) (.cons (.int 3 0 (P 224 149 224 150)) .nil))) 0 (P 224 135 224 151)) .nil))))))))))) (P 224 11 224 152)) (.bin (.loc 0 (P 224 153 224 159)) .Mod (.int 11 0 (P 224 162 224 164)) (P 224 153 224 164)) (P 224 11 224 165)) (P 224 4 224 165)) .nil)
noncomputable def fd17 : Fd := ⟨Str.ofString "_law_plain", ar17, bd17, sc17, [Str.ofString "number", Str.ofString "near"], 1, [], [], []⟩
noncomputable def sc18 : Scope := { kind := .function, names := [(Str.ofString "told", .local), (Str.ofString "body", .local), (Str.ofString "inner", .local), (Str.ofString "x", .local), (Str.ofString "what", .local), (Str.ofString "rest", .local), (Str.ofString "_law_plain", .globalImplicit), (Str.ofString "len", .globalImplicit)], isGenerator := false, isCoroutine := false, more := [] }
noncomputable def ar18 : Arguments := ⟨[], [⟨Str.ofString "told", none, (P 225 14 225 18)⟩], none, [], [], none, []⟩
noncomputable def bd18 : Ss := .cons (.ownT [(1, .l, (P 226 4 226 8), (P 226 19 226 21)), (2, .l, (P 226 10 226 15), (P 226 23 226 25))] 0 (P 226 4 226 15) 0 (P 226 18 226 26) (P 226 4 226 26)) (.cons (.fr (.nm 3 (P 227 8 227 9)) (.loc 0 (P 227 13 227 17)) (.cons (.asgX [(4, (P 228 8 228 12)), (5, (P 228 14 228 18))] 0 (P 228 8 228 18) (.tup (.cons (.bin (.loc 3 (P 228 22 228 23)) .Mod (.int 7 0 (P 228 26 228 27)) (P 228 22 228 27)) (.cons (.bin (.loc 3 (P 228 29 228 30)) .FloorDiv (.int 7 0 (P 228 34 228 35)) (P 228 29 228 35)) .nil)) 0 (P 228 21 228 36)) (P 228 8 228 36)) (.cons (.ifs (.cmp (.loc 4 (P 229 11 229 15)) .Lt (.int 3 0 (P 229 18 229 19)) (P 229 11 229 19)) (.cons (.app 1 (.tup (.cons (.bin (.int 2 0 (P 230 25 230 26)) .Add (.loc 4 (P 230 29 230 33)) (P 230 25 230 33)) (.cons (.sub (.lst (.cons (.neg 64 0 (P 230 37 230 39) (P 230 36 230 39)) (.cons (.neg 1 0 (P 230 42 230 43) (P 230 41 230 43)) (.cons (.int 5 0 (P 230 45 230 46)) (.cons (.int 11 0 (P 230 48 230 50)) .nil)))) (P 230 35 230 51)) (.bin (.loc 5 (P 230 52 230 56)) .Mod (.int 4 0 (P 230 59 230 60)) (P 230 52 230 60)) (P 230 35 230 61)) .nil)) 0 (P 230 24 230 62)) (P 230 12 230 16) (P 230 12 230 23) (P 230 12 230 63) (P 230 12 230 63)) (.cons (.app 2 (.loc 4 (P 231 25 231 29)) (P 231 12 231 17) (P 231 12 231 24) (P 231 12 231 30) (P 231 12 231 30)) .nil)) (.cons (.ifs (.bop3 .And (.cmp (.loc 4 (P 232 13 232 17)) .Eq (.int 3 0 (P 232 21 232 22)) (P 232 13 232 22)) (.cmp (.loc 2 (P 232 27 232 32)) .NotEq (.lst .nil (P 232 36 232 38)) (P 232 27 232 38)) (.cmp (.sub (.loc 2 (P 232 44 232 49)) (.neg 1 0 (P 232 51 232 52) (P 232 50 232 52)) (P 232 44 232 53)) .Eq (.int 2 0 (P 232 57 232 58)) (P 232 44 232 58)) (P 232 13 232 59)) (.cons (.app 1 (.tup (.cons (.int 5 0 (P 233 25 233 26)) .nil) 0 (P 233 24 233 28)) (P 233 12 233 16) (P 233 12 233 23) (P 233 12 233 29) (P 233 12 233 29)) (.cons (.setI 2 (.neg 1 0 (P 234 19 234 20) (P 234 18 234 20)) (.int 3 0 (P 234 24 234 25)) (P 234 12 234 17) (P 234 12 234 21) (P 234 12 234 25)) .nil)) (.cons (.ifs (.bop .And (.cmp (.loc 4 (P 235 13 235 17)) .Eq (.int 4 0 (P 235 21 235 22)) (P 235 13 235 22)) (.cmp (.loc 2 (P 235 27 235 32)) .NotEq (.lst .nil (P 235 36 235 38)) (P 235 27 235 38)) (P 235 13 235 38)) (.cons (.app 1 (.tup (.cons (.int 11 0 (P 236 25 236 27)) .nil) 0 (P 236 24 236 29)) (P 236 12 236 16) (P 236 12 236 23) (P 236 12 236 30) (P 236 12 236 30)) (.cons (.pop 2 (P 237 12 237 17) (P 237 12 237 21) (P 237 12 237 23) (P 237 12 237 23)) .nil)) (.cons (.app 1 (.call 17 (.cons (.loc 5 (P 239 35 239 39)) .nil) (P 239 24 239 34) (P 239 24 239 40)) (P 239 12 239 16) (P 239 12 239 23) (P 239 12 239 41) (P 239 12 239 41)) .nil) (P 235 8 239 41)) .nil) (P 232 8 239 41)) .nil) (P 229 8 239 41)) .nil)) (P 227 4 239 41)) (.cons (.ret (.bin (.loc 1 (P 240 11 240 15)) .Add (.bin (.lst (.cons (.tup (.cons (.int 11 0 (P 240 20 240 22)) .nil) 0 (P 240 19 240 24)) .nil) (P 240 18 240 25)) .Mult (.bin (.len (.loc 2 (P 240 33 240 38)) (P 240 29 240 32) (P 240 29 240 39)) .Add (.int 1 0 (P 240 42 240 43)) (P 240 29 240 43)) (P 240 18 240 44)) (P 240 11 240 44)) (P 240 4 240 44)) .nil))
noncomputable def fd18 : Fd := ⟨Str.ofString "_law_body", ar18, bd18, sc18, [Str.ofString "told", Str.ofString "body", Str.ofString "inner", Str.ofString "x", Str.ofString "what", Str.ofString "rest"], 1, [], [17], [0]⟩
noncomputable def sc19 : Scope := { kind := .function, names := [(Str.ofString "body", .local), (Str.ofString "ends", .local), (Str.ofString "elses", .local), (Str.ofString "at", .local), (Str.ofString "place", .local), (Str.ofString "depth", .local), (Str.ofString "middle", .local), (Str.ofString "code", .local), (Str.ofString "range", .globalImplicit), (Str.ofString "len", .globalImplicit)], isGenerator := false, isCoroutine := false, more := [] }
noncomputable def ar19 : Arguments := ⟨[], [⟨Str.ofString "body", none, (P 241 13 241 17)⟩], none, [], [], none, []⟩
noncomputable def bd19 : Ss := .cons (.ownT [(1, .i, (P 242 4 242 8), (P 242 19 242 21)), (2, .i, (P 242 10 242 15), (P 242 23 242 25))] 0 (P 242 4 242 15) 0 (P 242 18 242 26) (P 242 4 242 26)) (.cons (.frR (.nm 3 (P 243 8 243 10)) (.len (.loc 0 (P 243 24 243 28)) (P 243 20 243 23) (P 243 20 243 29)) (P 243 14 243 19) (P 243 14 243 30) (.cons (.ifs (.cmp (.sub (.sub (.loc 0 (P 244 11 244 15)) (.loc 3 (P 244 16 244 18)) (P 244 11 244 19)) (.int 0 0 (P 244 20 244 21)) (P 244 11 244 22)) .In (.lst (.cons (.int 2 0 (P 244 27 244 28)) (.cons (.int 3 0 (P 244 30 244 31)) (.cons (.int 4 0 (P 244 33 244 34)) .nil))) (P 244 26 244 35)) (P 244 11 244 35)) (.cons (.asgX [(4, (P 245 12 245 17)), (5, (P 245 19 245 24)), (6, (P 245 26 245 32))] 0 (P 245 12 245 32) (.tup (.cons (.loc 3 (P 245 36 245 38)) (.cons (.int 1 0 (P 245 40 245 41)) (.cons (.neg 1 0 (P 245 44 245 45) (P 245 43 245 45)) .nil))) 0 (P 245 35 245 46)) (P 245 12 245 46)) (.cons (.whl (.cmp (.loc 5 (P 246 18 246 23)) .Gt (.int 0 0 (P 246 26 246 27)) (P 246 18 246 27)) (.cons (.aug 4 .Add (.int 1 0 (P 247 25 247 26)) (P 247 16 247 21) (P 247 16 247 26)) (.cons (.asg 7 (.sub (.sub (.loc 0 (P 248 23 248 27)) (.loc 4 (P 248 28 248 33)) (P 248 23 248 34)) (.int 0 0 (P 248 35 248 36)) (P 248 23 248 37)) (P 248 16 248 20) (P 248 16 248 37)) (.cons (.ifs (.cmp (.loc 7 (P 249 19 249 23)) .In (.lst (.cons (.int 2 0 (P 249 28 249 29)) (.cons (.int 3 0 (P 249 31 249 32)) (.cons (.int 4 0 (P 249 34 249 35)) .nil))) (P 249 27 249 36)) (P 249 19 249 36)) (.cons (.aug 5 .Add (.int 1 0 (P 250 29 250 30)) (P 250 20 250 25) (P 250 20 250 30)) .nil) (.cons (.ifs (.cmp (.loc 7 (P 251 21 251 25)) .Eq (.int 11 0 (P 251 29 251 31)) (P 251 21 251 31)) (.cons (.aug 5 .Sub (.int 1 0 (P 252 29 252 30)) (P 252 20 252 25) (P 252 20 252 30)) .nil) (.cons (.ifs (.bop .And (.cmp (.loc 7 (P 253 21 253 25)) .Eq (.int 5 0 (P 253 29 253 30)) (P 253 21 253 30)) (.cmp (.loc 5 (P 253 35 253 40)) .Eq (.int 1 0 (P 253 44 253 45)) (P 253 35 253 45)) (P 253 21 253 45)) (.cons (.asg 6 (.loc 4 (P 254 29 254 34)) (P 254 20 254 26) (P 254 20 254 34)) .nil) .nil (P 253 16 254 34)) .nil) (P 251 16 254 34)) .nil) (P 249 16 254 34)) .nil))) (P 246 12 254 34)) (.cons (.setI 1 (.loc 3 (P 255 17 255 19)) (.loc 4 (P 255 23 255 28)) (P 255 12 255 16) (P 255 12 255 20) (P 255 12 255 28)) (.cons (.ifs (.cmp (.loc 6 (P 256 15 256 21)) .GtE (.int 0 0 (P 256 25 256 26)) (P 256 15 256 26)) (.cons (.setI 2 (.loc 3 (P 257 22 257 24)) (.loc 6 (P 257 28 257 34)) (P 257 16 257 21) (P 257 16 257 25) (P 257 16 257 34)) (.cons (.setI 1 (.loc 6 (P 258 21 258 27)) (.loc 4 (P 258 31 258 36)) (P 258 16 258 20) (P 258 16 258 28) (P 258 16 258 36)) .nil)) .nil (P 256 12 258 36)) .nil)))) .nil (P 244 8 258 36)) .nil) (P 243 4 258 36)) (.cons (.ret (.tup (.cons (.loc 1 (P 259 12 259 16)) (.cons (.loc 2 (P 259 18 259 23)) .nil)) 0 (P 259 11 259 24)) (P 259 4 259 24)) .nil))
noncomputable def fd19 : Fd := ⟨Str.ofString "_law_due", ar19, bd19, sc19, [Str.ofString "body", Str.ofString "ends", Str.ofString "elses", Str.ofString "at", Str.ofString "place", Str.ofString "depth", Str.ofString "middle", Str.ofString "code"], 1, [], [], [0, 3]⟩
noncomputable def sc20 : Scope := { kind := .function, names := [(Str.ofString "script", .local), (Str.ofString "told", .local), (Str.ofString "body", .local), (Str.ofString "names", .cell), (Str.ofString "codes", .local), (Str.ofString "code", .local), (Str.ofString "words", .local), (Str.ofString "many", .local), (Str.ofString "x", .local), (Str.ofString "near", .local), (Str.ofString "cut", .local), (Str.ofString "text", .local), (Str.ofString "list", .globalImplicit), (Str.ofString "_law_body", .globalImplicit), (Str.ofString "matches", .globalImplicit), (Str.ofString "_law_due", .globalImplicit), (Str.ofString "_law_names", .globalImplicit), (Str.ofString "_law_codes", .globalImplicit), (Str.ofString "len", .globalImplicit), (Str.ofString "_law_is_told", .globalImplicit), (Str.ofString "code_of", .globalImplicit)], isGenerator := false, isCoroutine := false, more := [(Str.ofString "fast", .str (Str.ofString "script")), (Str.ofString "fast", .str (Str.ofString "told")), (Str.ofString "fast", .str (Str.ofString "body")), (Str.ofString "fast", .str (Str.ofString "names")), (Str.ofString "fast", .str (Str.ofString "codes")), (Str.ofString "fast", .str (Str.ofString "code")), (Str.ofString "fast", .str (Str.ofString "words")), (Str.ofString "fast", .str (Str.ofString "many")), (Str.ofString "fast", .str (Str.ofString "x")), (Str.ofString "fast", .str (Str.ofString "near")), (Str.ofString "fast", .str (Str.ofString "cut")), (Str.ofString "fast", .str (Str.ofString "text"))] }
noncomputable def ar20 : Arguments := ⟨[], [⟨Str.ofString "script", none, (P 260 8 260 14)⟩], none, [], [], none, []⟩
noncomputable def bd20a : Ss := .cons (.asg 1 (.bin (.list (.slTo (.loc 0 (P 261 16 261 22)) (.int 24 0 (P 261 24 261 26)) (P 261 23 261 26) (P 261 16 261 27)) (P 261 11 261 15) (P 261 11 261 28)) .Add (.lst (.cons (.int 51 0 (P 261 32 261 34)) (.cons (.int 68 0 (P 261 36 261 38)) (.cons (.int 59 0 (P 261 40 261 42)) (.cons (.int 81 0 (P 261 44 261 46)) .nil)))) (P 261 31 261 47)) (P 261 11 261 47)) (P 261 4 261 8) (P 261 4 261 47)) (.cons (.asg 2 (.call 18 (.cons (.loc 1 (P 262 21 262 25)) .nil) (P 262 11 262 20) (P 262 11 262 26)) (P 262 4 262 8) (P 262 4 262 26)) (.cons (.ifs (.cmp (.call 6 (.cons (.loc 2 (P 263 15 263 19)) .nil) (P 263 7 263 14) (P 263 7 263 20)) .NotEq (.call 19 (.cons (.loc 2 (P 263 33 263 37)) .nil) (P 263 24 263 32) (P 263 24 263 38)) (P 263 7 263 38)) (.cons (.ret (.bool false 0 (P 264 15 264 20)) (P 264 8 264 20)) .nil) .nil (P 263 4 264 20)) .nil))
noncomputable def e20 : E := .call 10 .nil (P 265 12 265 22) (P 265 12 265 24)
noncomputable def bd20b : Ss := .cons (.asg 4 (.call 12 (.cons (.loc 3 (P 266 23 266 28)) .nil) (P 266 12 266 22) (P 266 12 266 29)) (P 266 4 266 9) (P 266 4 266 29)) .nil
noncomputable def bd20c : Ss := .cons (.asg 7 (.len (.loc 6 (P 268 15 268 20)) (P 268 11 268 14) (P 268 11 268 21)) (P 268 4 268 8) (P 268 4 268 21)) (.cons (.fr (.nm 8 (P 269 8 269 9)) (.slTo (.loc 1 (P 269 13 269 17)) (.int 8 0 (P 269 19 269 20)) (P 269 18 269 20) (P 269 13 269 21)) (.cons (.asg 9 (.bin (.loc 8 (P 270 15 270 16)) .Mod (.int 300 0 (P 270 19 270 22)) (P 270 15 270 22)) (P 270 8 270 12) (P 270 8 270 22)) (.cons (.asg 5 (.ite (.cmp (.loc 9 (P 271 23 271 27)) .Lt (.int 256 0 (P 271 30 271 33)) (P 271 23 271 33)) (.loc 9 (P 271 15 271 19)) (.bin (.bin (.int 64512 0 (P 271 39 271 44)) .Add (.loc 9 (P 271 47 271 51)) (P 271 39 271 51)) .Sub (.int 256 0 (P 271 54 271 57)) (P 271 39 271 57)) (P 271 15 271 57)) (P 271 8 271 12) (P 271 8 271 57)) (.cons (.ifs (.bop .Or (.not (.call 16 (.cons (.loc 8 (P 272 28 272 29)) (.cons (.loc 3 (P 272 31 272 36)) (.cons (.loc 4 (P 272 38 272 43)) .nil))) (P 272 15 272 27) (P 272 15 272 44)) (P 272 11 272 44)) (.not (.call 16 (.cons (.loc 5 (P 272 65 272 69)) (.cons (.loc 3 (P 272 71 272 76)) (.cons (.loc 4 (P 272 78 272 83)) .nil))) (P 272 52 272 64) (P 272 52 272 84)) (P 272 48 272 84)) (P 272 11 272 84)) (.cons (.ret (.bool false 0 (P 273 19 273 24)) (P 273 12 273 24)) .nil) .nil (P 272 8 273 24)) (.cons (.asg 10 (.sub (.lst (.cons (.int 4 0 (P 274 15 274 16)) (.cons (.int 20 0 (P 274 18 274 20)) (.cons (.int 0 0 (P 274 22 274 23)) (.cons (.int 3 0 (P 274 25 274 26)) (.cons (.int 5 0 (P 274 28 274 29)) (.cons (.int 6 0 (P 274 31 274 32)) (.cons (.int 7 0 (P 274 34 274 35)) (.cons (.int 8 0 (P 274 37 274 38)) .nil)))))))) (P 274 14 274 39)) (.bin (.bin (.loc 8 (P 274 40 274 41)) .FloorDiv (.int 7 0 (P 274 45 274 46)) (P 274 40 274 46)) .Mod (.int 8 0 (P 274 49 274 50)) (P 274 40 274 50)) (P 274 14 274 51)) (P 274 8 274 11) (P 274 8 274 51)) (.cons (.asg 11 (.bin (.slTo (.sub (.loc 6 (P 275 15 275 20)) (.bin (.loc 8 (P 275 21 275 22)) .Mod (.loc 7 (P 275 25 275 29)) (P 275 21 275 29)) (P 275 15 275 30)) (.loc 10 (P 275 32 275 35)) (P 275 31 275 35) (P 275 15 275 36)) .Add (.slFr (.sub (.loc 6 (P 275 39 275 44)) (.bin (.bin (.loc 8 (P 275 45 275 46)) .FloorDiv (.loc 7 (P 275 50 275 54)) (P 275 45 275 54)) .Mod (.loc 7 (P 275 57 275 61)) (P 275 45 275 61)) (P 275 39 275 62)) (.loc 10 (P 275 63 275 66)) (P 275 63 275 67) (P 275 39 275 68)) (P 275 15 275 68)) (P 275 8 275 12) (P 275 8 275 68)) (.cons (.ifs (.cmp (.call 8 (.cons (.loc 11 (P 276 19 276 23)) .nil) (P 276 11 276 18) (P 276 11 276 24)) .NotEq (.meth (.loc 4 (P 276 28 276 33)) 0 (.loc 11 (P 276 38 276 42)) (P 276 28 276 37) (P 276 28 276 43)) (P 276 11 276 43)) (.cons (.ret (.bool false 0 (P 277 19 277 24)) (P 277 12 277 24)) .nil) .nil (P 276 8 277 24)) .nil)))))) (P 269 4 277 24)) (.cons (.ret (.bool true 0 (P 278 11 278 15)) (P 278 4 278 15)) .nil))
noncomputable def fds : Nat → Option Fd
  | 0 => some fd0
  | 1 => some fd1
  | 2 => some fd2
  | 3 => some fd3
  | 4 => some fd4
  | 6 => some fd6
  | 7 => some fd7
  | 8 => some fd8
  | 9 => some fd9
  | 10 => some fd10
  | 11 => some fd11
  | 12 => some fd12
  | 13 => some fd13
  | 14 => some fd14
  | 15 => some fd15
  | 16 => some fd16
  | 17 => some fd17
  | 18 => some fd18
  | 19 => some fd19
  | _ => none
noncomputable def leftIn (x : Int) : List V → Bool
  | [] => false
  | .tup [.int a, .int b] :: l => (decide (a ≤ x) && decide (x ≤ b)) || leftIn x l
  | _ => false
noncomputable def leftV : List V → Option V
  | [.int x] => if x = 253 then some (.bool true) else match gLEFT_RANGES with
    | .lst l => some (.bool (leftIn x l))
    | _ => none
  | _ => none
noncomputable def WL : Nat → Wd
  | 0 => ⟨gl, fun _ _ => none, fun i => decide (i < 4)⟩
  | n + 1 => ⟨gl, fun f xs => if f = 5 then leftV xs else match fds f with
      | some F => runB (WL n) F xs
      | none => none, fun i => decide (i < 4)⟩
end Mine

namespace Mine
noncomputable def rdE (ks : List Int) (es : List DictEntry) : Bool := match ks, es with
  | [], [] => true
  | k :: ks, e :: es => (match e.key with
      | .int i _ => decide (i = k)
      | _ => false) && decide (e.hash = hashInt k) && rdE ks es
  | _, _ => false
mutual
/-- val is read as v in h -/
noncomputable def rdV (h : Heap) : V → Value → Bool
  | .none, .none => true
  | .bool b, .bool c => b == c
  | .int i, .int j _ => decide (j = i)
  | .str s, .str t _ => decide (t.cps.toList = s)
  | .tup l, .ref a => match h.get? a with
    | some ⟨.type c, none, .seq xs _, sl⟩ => decide (c = "tuple") && sl.isEmpty && rdVs h l xs.toList
    | _ => false
  | .lst l, .ref a => match h.get? a with
    | some ⟨.type c, none, .seq xs _, sl⟩ => decide (c = "list") && sl.isEmpty && rdVs h l xs.toList
    | _ => false
  | .dI ks vs, .ref a => match h.get? a with
    | some ⟨.type c, none, .dict es _, sl⟩ => decide (c = "dict") && sl.isEmpty && rdE ks es.toList && decide ks.Nodup && !(a == sysModules) && rdVs h vs (es.toList.map (·.val))
    | _ => false
  | _, _ => false
noncomputable def rdVs (h : Heap) : List V → List Value → Bool
  | [], [] => true
  | v :: l, x :: xs => rdV h v x && rdVs h l xs
  | _, _ => false
end
section
variable {prog : Program} {w : World} {h : Heap}
theorem rdE_ok : ∀ {ks : List Int} {es : List DictEntry}, rdE ks es = true → ks.length = (es.map (·.val)).length ∧ (∀ e ∈ es, ∃ k, (intKind prog w).is k e.key = true ∧ e.hash = (intKind prog w).hash k) ∧ Pairs (intKind prog w) es (ks.zip (es.map (·.val)))
  | [], [], _ => ⟨rfl, fun e he => (nomatch he), .nil⟩
  | k :: ks, e :: es, hh => by
    simp only [rdE, Bool.and_eq_true, decide_eq_true_eq] at hh
    obtain ⟨⟨h1, h2⟩, h3⟩ := hh
    obtain ⟨a, b, c⟩ := rdE_ok h3
    have hk : (intKind prog w).is k e.key = true := by
      show Value.isInt k e.key = true
      split at h1
      · rename_i i t q
        rw [q]
        simpa [Value.isInt] using h1
      · cases h1
    refine ⟨by simpa using a, fun x hx => ?_, ?_⟩
    · rcases List.mem_cons.mp hx with rfl | hx
      · exact ⟨k, hk, h2⟩
      · exact b x hx
    · exact .cons (kv := (k, e.val)) hk rfl c
  | [], _ :: _, hh => by simp [rdE] at hh
  | _ :: _, [], hh => by simp [rdE] at hh
theorem arr_nil {α : Type} {a : Array α} (h : a.isEmpty = true) : a = #[] := by simpa using h
mutual
theorem rdV_ok : ∀ {v : V} {x : Value}, rdV h v x = true → VR prog w (fun _ => False) h v x
  | .none, x, e => by cases x <;> simp [rdV] at e; rfl
  | .bool b, x, e => by cases x <;> simp [rdV] at e; subst e; rfl
  | .int i, x, e => by cases x <;> simp [rdV] at e; subst e; exact ⟨_, rfl⟩
  | .str s, x, e => by
    cases x <;> simp [rdV] at e
    subst e
    rename_i t tk
    exact ⟨tk, by rw [mkS_cps]⟩
  | .tup l, x, e => by
    cases x <;> simp only [rdV] at e <;> try (cases e; done)
    rename_i a
    split at e <;> try (cases e; done)
    rename_i c xs nn sl ho
    simp only [Bool.and_eq_true, decide_eq_true_eq] at e
    obtain ⟨⟨rfl, h2⟩, h3⟩ := e
    have := arr_nil h2
    subst this
    exact ⟨a, xs.toList, rfl, fun y => y, ⟨nn, by simpa using ho⟩, rdVs_ok h3⟩
  | .lst l, x, e => by
    cases x <;> simp only [rdV] at e <;> try (cases e; done)
    rename_i a
    split at e <;> try (cases e; done)
    rename_i c xs nn sl ho
    simp only [Bool.and_eq_true, decide_eq_true_eq] at e
    obtain ⟨⟨rfl, h2⟩, h3⟩ := e
    have := arr_nil h2
    subst this
    exact ⟨a, xs.toList, rfl, fun y => y, ⟨nn, by simpa using ho⟩, rdVs_ok h3⟩
  | .dI ks vs, x, e => by
    cases x <;> simp only [rdV] at e <;> try (cases e; done)
    rename_i a
    split at e <;> try (cases e; done)
    rename_i c es ep sl ho
    simp only [Bool.and_eq_true, decide_eq_true_eq, Bool.not_eq_true'] at e
    obtain ⟨⟨⟨⟨⟨rfl, h2⟩, h3⟩, h4⟩, h5⟩, h6⟩ := e
    have := arr_nil h2
    subst this
    obtain ⟨p1, p2, p3⟩ := rdE_ok (prog := prog) (w := w) h3
    refine ⟨a, es.toList.map (·.val), rfl, fun y => y, ⟨_, es, ep, ho, ⟨rfl, rfl, rfl⟩, rfl, fun e he => p2 e (by simpa using he), p3, ?_⟩, p1, h5, rdVs_ok h6⟩
    rw [zip_fst' _ _ p1]; exact h4
  | .dS ks vs, x, e => by cases x <;> simp [rdV] at e
theorem rdVs_ok : ∀ {l : List V} {xs : List Value}, rdVs h l xs = true → VRs prog w (fun _ => False) h l xs
  | [], [], _ => rfl
  | v :: l, x :: xs, e => by
    simp only [rdVs, Bool.and_eq_true] at e
    exact ⟨x, xs, rfl, rdV_ok e.1, rdVs_ok e.2⟩
  | [], _ :: _, e => by simp [rdVs] at e
  | _ :: _, [], e => by simp [rdVs] at e
end
end
/-- every global that the law reads -/
noncomputable def rdG (h : Heap) : Bool := (List.range 16).all fun i => match gl i with
  | some v => (match h.nsMap mainGlobals (gNm i) with
    | some x => rdV h v x
    | none => false)
  | none => false
end Mine

namespace Mine
noncomputable abbrev pw : Program := PySem.Challenge.pw_nm0118_01
noncomputable def topG (ok : Nat → Option Value → Thread → Bool) (stp : Program → World → SharedT → Thread → Option (SharedT × Thread)) (p : Program) (w : World) (n₀ : Nat) (ann : Option Value) : Nat → SharedT → Thread → Option SharedT
  | 0, _, _ => none
  | n + 1, s, t => match through t with
    | true => some s
    | false => match ok n₀ ann t with
      | false => none
      | true => match stp p w s t with
        | some (s', t') => topG ok stp p w n₀ ann n s' t'
        | none => none
theorem topG_ok {tb : String → Option Builtin} {p : Program} {w : World} {n₀ : Nat} {ann : Option Value} : ∀ (n : Nat) (s s' : SharedT) (t : Thread), topG stepOk (stepT (denote tb)) p w n₀ ann n s t = some s' → topRun tb p w n₀ ann n s.abs t = some s'.abs
  | 0, s, s', t, e => by cases e
  | n + 1, s, s', t, e => by
    unfold topG at e
    unfold topRun
    split at e
    · rename_i h; rw [h]; cases e; rfl
    · rename_i h
      rw [h]
      split at e
      · cases e
      · rename_i h2
        rw [h2]
        split at e
        · rename_i s1 t1 h3
          rw [stepT_spec h3]
          exact topG_ok n s1 s' t1 e
        · cases e
theorem topG_eq : topG stepOk (stepT (denote treeTable)) = topG PySem.W.Fast.tw6613529449190102663 (PySem.W.Fast.tw10156331382660048174 (PySem.W.Fast.tw11892475500146522536 PySem.W.Fast.tw14364793385576792824)) := by
  rw [PySem.W.Fast.te6613529449190102663, PySem.W.Fast.te10156331382660048174, PySem.W.Fast.te11892475500146522536, PySem.W.Fast.te14364793385576792824]
noncomputable def treeOf : List Obj → Nat → BT → BT
  | [], _, t => t
  | o :: r, n, t => treeOf r (n + 1) (t.ins n o)
noncomputable def bootT (P : Params) (os : OsState) : SharedT := ⟨treeOf (boot_heap P).objs.toList 0 .nil, (boot_heap P).objs.size, (boot_heap P).life, #[], boot_drawn, boot_toks, os⟩
noncomputable def keepI : List Nat := [53, 54, 55, 56, 57, 58, 59, 65, 66, 67, 69, 70, 71, 72, 73, 74, 75, 76, 77, 78, 79]
noncomputable def qv : Program := view pw keepI
noncomputable def lo8 : List Str := [Str.ofString "I32", Str.ofString "I64", Str.ofString "FUNCREF", Str.ofString "UNREACHABLE", Str.ofString "NOP", Str.ofString "BLOCK", Str.ofString "LOOP", Str.ofString "IF", Str.ofString "ELSE", Str.ofString "END", Str.ofString "BR", Str.ofString "BR_IF", Str.ofString "BR_TABLE", Str.ofString "RETURN", Str.ofString "CALL", Str.ofString "CALL_INDIRECT", Str.ofString "RETURN_CALL", Str.ofString "RETURN_CALL_INDIRECT", Str.ofString "DROP", Str.ofString "SELECT", Str.ofString "SELECT_KINDS", Str.ofString "LOCAL_GET", Str.ofString "LOCAL_SET", Str.ofString "LOCAL_TEE", Str.ofString "GLOBAL_GET", Str.ofString "GLOBAL_SET", Str.ofString "TABLE_GET", Str.ofString "TABLE_SET", Str.ofString "MEMORY_SIZE", Str.ofString "MEMORY_GROW", Str.ofString "I32_CONST", Str.ofString "I64_CONST", Str.ofString "REF_NULL", Str.ofString "REF_IS_NULL", Str.ofString "REF_FUNC", Str.ofString "MEMORY_INIT", Str.ofString "DATA_DROP", Str.ofString "MEMORY_COPY", Str.ofString "MEMORY_FILL", Str.ofString "TABLE_INIT", Str.ofString "ELEM_DROP", Str.ofString "TABLE_COPY", Str.ofString "TABLE_GROW", Str.ofString "TABLE_SIZE", Str.ofString "TABLE_FILL", Str.ofString "VECTOR_PREFIX", Str.ofString "LOADS", Str.ofString "STORES", Str.ofString "LEFT_RANGES", Str.ofString "FORMS", Str.ofString "FIXED", Str.ofString "NUMBERS", Str.ofString "TESTS", Str.ofString "SUMS", Str.ofString "ROWS", Str.ofString "NAMES"]
noncomputable def Xt (s : Shared) : Bool := rdG s.heap
noncomputable def Yf (s : Shared) : Bool := decide (1 ≤ s.toks)
/-- what is asked of the top's end -/
noncomputable def endOk (h₀ : Heap) (s : Shared) : Bool := staticsOk (importedModules pw.main.body) h₀ s.heap && namesBound pw s.heap && gensDone s && laidKept h₀ s.heap
end Mine

namespace Mine
theorem boot_abs : ∀ (P : Params) (os : OsState), (bootT P os).abs = ⟨boot_heap P, #[], boot_drawn, boot_toks, os⟩ := by intro P os; kernel_rfl
theorem boot_isNs : ∀ P : Params, (boot_heap P).isNs mainGlobals = true := by intro P; kernel_rfl
theorem boot_size : ∀ P : Params, (boot_heap P).objs.size = 11 := by intro P; kernel_rfl
theorem boot_ann : ∀ P : Params, (boot_heap P).nsMap mainGlobals "__annotations__" = some (.ref 6) := by intro P; kernel_rfl
theorem pw_open : opening pw = plainProg pw.main.scope.names := by kernel_rfl
theorem pw_fence : ∀ s, fenceModules? pw s = some s := by intro s; kernel_rfl
end Mine

namespace Mine
/-- is_left_out's and law's own names -/
noncomputable def n5 : Nm := ⟨fun _ => Str.ofString "code", gNm, fNm⟩
noncomputable def ls20 : List Str := [Str.ofString "script", Str.ofString "told", Str.ofString "body", Str.ofString "names", Str.ofString "codes", Str.ofString "code", Str.ofString "words", Str.ofString "many", Str.ofString "x", Str.ofString "near", Str.ofString "cut", Str.ofString "text"]
noncomputable def n20 : Nm := ⟨fun i => (ls20[i]?).getD (Str.ofString ""), gNm, fNm⟩
noncomputable abbrev nmE (s : String) (p : Pos) : PE := .Name (Str.ofString s) p
noncomputable def sc5c : Scope := { kind := .function, names := [(Str.ofString ".0", .local), (Str.ofString "least", .local), (Str.ofString "most", .local), (Str.ofString "code", .free)], isGenerator := false, isCoroutine := false }
noncomputable def comp5 : PE := .ListComp (.Compare (nmE "least" (P 81 16 81 21)) [.LtE, .LtE] [nmE "code" (P 81 25 81 29), nmE "most" (P 81 33 81 37)] (P 81 16 81 37)) [⟨.Tuple [nmE "least" (P 81 42 81 47), nmE "most" (P 81 49 81 53)] 0 (P 81 42 81 53), nmE "LEFT_RANGES" (P 81 57 81 68), [], 0⟩] sc5c (P 81 15 81 69)
noncomputable def ret5 : PS := .Return (some (.Call (nmE "any" (P 81 11 81 14)) [comp5] [] (P 81 11 81 70))) (P 81 4 81 70)
noncomputable def body5 : List PS := bd5.py n5 ++ [ret5]
noncomputable def sc20c : Scope := { kind := .function, names := [(Str.ofString ".0", .local), (Str.ofString "code", .local), (Str.ofString "names", .free)], isGenerator := false, isCoroutine := false }
noncomputable def comp20 : PE := .ListComp (.Subscript (nmE "names" (P 267 13 267 18)) (nmE "code" (P 267 19 267 23)) (P 267 13 267 24)) [⟨nmE "code" (P 267 29 267 33), nmE "names" (P 267 37 267 42), [], 0⟩] sc20c (P 267 12 267 43)
noncomputable def names20 : PS := .Assign [nmE "names" (P 265 4 265 9)] (e20.py n20) (P 265 4 265 24)
noncomputable def words20 : PS := .Assign [nmE "words" (P 267 4 267 9)] comp20 (P 267 4 267 43)
noncomputable def body20 : List PS := bd20a.py n20 ++ [names20] ++ bd20b.py n20 ++ [words20] ++ bd20c.py n20
noncomputable abbrev nmI (F : Fd) : Nm := nmOf gNm fNm F
noncomputable def rc0 : DefRec := ⟨Str.ofString "number_kind", ar0, bd0.py (nmI fd0), sc0, (P 54 0 58 15)⟩
noncomputable def rc1 : DefRec := ⟨Str.ofString "form_of", ar1, bd1.py (nmI fd1), sc1, (P 59 0 64 56)⟩
noncomputable def rc2 : DefRec := ⟨Str.ofString "stack_of", ar2, bd2.py (nmI fd2), sc2, (P 65 0 72 28)⟩
noncomputable def rc3 : DefRec := ⟨Str.ofString "natural", ar3, bd3.py (nmI fd3), sc3, (P 73 0 75 43)⟩
noncomputable def rc4 : DefRec := ⟨Str.ofString "is_block", ar4, bd4.py (nmI fd4), sc4, (P 76 0 77 36)⟩
noncomputable def rc5 : DefRec := ⟨Str.ofString "is_left_out", ar5, body5, sc5, (P 78 0 81 70)⟩
noncomputable def rc6 : DefRec := ⟨Str.ofString "matches", ar6, bd6.py (nmI fd6), sc6, (P 82 0 95 24)⟩
noncomputable def rc7 : DefRec := ⟨Str.ofString "name_of", ar7, bd7.py (nmI fd7), sc7, (P 101 0 107 15)⟩
noncomputable def rc8 : DefRec := ⟨Str.ofString "code_of", ar8, bd8.py (nmI fd8), sc8, (P 108 0 115 15)⟩
noncomputable def rc9 : DefRec := ⟨Str.ofString "is_left_word", ar9, bd9.py (nmI fd9), sc9, (P 116 0 119 106)⟩
noncomputable def rc10 : DefRec := ⟨Str.ofString "_law_names", ar10, bd10.py (nmI fd10), sc10, (P 121 0 132 16)⟩
noncomputable def rc11 : DefRec := ⟨Str.ofString "_law_is_float", ar11, bd11.py (nmI fd11), sc11, (P 133 0 134 41)⟩
noncomputable def rc12 : DefRec := ⟨Str.ofString "_law_codes", ar12, bd12.py (nmI fd12), sc12, (P 135 0 140 16)⟩
noncomputable def rc13 : DefRec := ⟨Str.ofString "_law_form", ar13, bd13.py (nmI fd13), sc13, (P 141 0 162 44)⟩
noncomputable def rc14 : DefRec := ⟨Str.ofString "_law_stack", ar14, bd14.py (nmI fd14), sc14, (P 163 0 195 34)⟩
noncomputable def rc15 : DefRec := ⟨Str.ofString "_law_is_access", ar15, bd15.py (nmI fd15), sc15, (P 196 0 207 66)⟩
noncomputable def rc16 : DefRec := ⟨Str.ofString "_law_is_told", ar16, bd16.py (nmI fd16), sc16, (P 208 0 221 93)⟩
noncomputable def rc17 : DefRec := ⟨Str.ofString "_law_plain", ar17, bd17.py (nmI fd17), sc17, (P 222 0 224 165)⟩
noncomputable def rc18 : DefRec := ⟨Str.ofString "_law_body", ar18, bd18.py (nmI fd18), sc18, (P 225 0 240 44)⟩
noncomputable def rc19 : DefRec := ⟨Str.ofString "_law_due", ar19, bd19.py (nmI fd19), sc19, (P 241 0 259 24)⟩
noncomputable def rc20 : DefRec := ⟨Str.ofString "law", ar20, body20, sc20, (P 260 0 278 15)⟩
noncomputable def recs : List DefRec := [rc0, rc1, rc2, rc3, rc4, rc5, rc6, rc7, rc8, rc9, rc10, rc11, rc12, rc13, rc14, rc15, rc16, rc17, rc18, rc19, rc20]
theorem recs_ok : recsOf qv = recs := by kernel_rfl
theorem def20 : defOf qv (Str.ofString "law") = some (rc20, []) := by kernel_rfl
theorem the20 : pw.theDef (Str.ofString "law") = some (ar20, body20, sc20) := by kernel_rfl
end Mine

namespace Mine

theorem fdok0 : FdOK gNm fNm fd0 := fdOK (by kernel_rfl)
theorem bind0 {pm cd doc : Value} : ∀ vals : List Value, vals.length = fd0.np → bindArgs (Calls.docDef fd0.name fd0.params (fd0.body.py (nmI fd0)) fd0.scope pm cd doc) ⟨vals, []⟩ = pure ((fd0.ls.take fd0.np).zip vals)
  | [_], _ => rfl
theorem oks0 {a : Addr} {cd : Value} (L : Addr) : okSs (nmI fd0) (envOf fd0.name fd0.scope L a cd) fd0.body := by
  repeat' (first | exact trivial | exact rfl | decide | refine And.intro ?_ ?_)
theorem fdok1 : FdOK gNm fNm fd1 := fdOK (by kernel_rfl)
theorem bind1 {pm cd doc : Value} : ∀ vals : List Value, vals.length = fd1.np → bindArgs (Calls.docDef fd1.name fd1.params (fd1.body.py (nmI fd1)) fd1.scope pm cd doc) ⟨vals, []⟩ = pure ((fd1.ls.take fd1.np).zip vals)
  | [_], _ => rfl
theorem oks1 {a : Addr} {cd : Value} (L : Addr) : okSs (nmI fd1) (envOf fd1.name fd1.scope L a cd) fd1.body := by
  repeat' (first | exact trivial | exact rfl | decide | refine And.intro ?_ ?_)
theorem fdok2 : FdOK gNm fNm fd2 := fdOK (by kernel_rfl)
theorem bind2 {pm cd doc : Value} : ∀ vals : List Value, vals.length = fd2.np → bindArgs (Calls.docDef fd2.name fd2.params (fd2.body.py (nmI fd2)) fd2.scope pm cd doc) ⟨vals, []⟩ = pure ((fd2.ls.take fd2.np).zip vals)
  | [_], _ => rfl
theorem oks2 {a : Addr} {cd : Value} (L : Addr) : okSs (nmI fd2) (envOf fd2.name fd2.scope L a cd) fd2.body := by
  repeat' (first | exact trivial | exact rfl | decide | refine And.intro ?_ ?_)
theorem fdok3 : FdOK gNm fNm fd3 := fdOK (by kernel_rfl)
theorem bind3 {pm cd doc : Value} : ∀ vals : List Value, vals.length = fd3.np → bindArgs (Calls.docDef fd3.name fd3.params (fd3.body.py (nmI fd3)) fd3.scope pm cd doc) ⟨vals, []⟩ = pure ((fd3.ls.take fd3.np).zip vals)
  | [_], _ => rfl
theorem oks3 {a : Addr} {cd : Value} (L : Addr) : okSs (nmI fd3) (envOf fd3.name fd3.scope L a cd) fd3.body := by
  repeat' (first | exact trivial | exact rfl | decide | refine And.intro ?_ ?_)
theorem fdok4 : FdOK gNm fNm fd4 := fdOK (by kernel_rfl)
theorem bind4 {pm cd doc : Value} : ∀ vals : List Value, vals.length = fd4.np → bindArgs (Calls.docDef fd4.name fd4.params (fd4.body.py (nmI fd4)) fd4.scope pm cd doc) ⟨vals, []⟩ = pure ((fd4.ls.take fd4.np).zip vals)
  | [_], _ => rfl
theorem oks4 {a : Addr} {cd : Value} (L : Addr) : okSs (nmI fd4) (envOf fd4.name fd4.scope L a cd) fd4.body := by
  repeat' (first | exact trivial | exact rfl | decide | refine And.intro ?_ ?_)
theorem fdok6 : FdOK gNm fNm fd6 := fdOK (by kernel_rfl)
theorem bind6 {pm cd doc : Value} : ∀ vals : List Value, vals.length = fd6.np → bindArgs (Calls.docDef fd6.name fd6.params (fd6.body.py (nmI fd6)) fd6.scope pm cd doc) ⟨vals, []⟩ = pure ((fd6.ls.take fd6.np).zip vals)
  | [_], _ => rfl
theorem oks6 {a : Addr} {cd : Value} (L : Addr) : okSs (nmI fd6) (envOf fd6.name fd6.scope L a cd) fd6.body := by
  repeat' (first | exact trivial | exact rfl | decide | refine And.intro ?_ ?_)
theorem fdok7 : FdOK gNm fNm fd7 := fdOK (by kernel_rfl)
theorem bind7 {pm cd doc : Value} : ∀ vals : List Value, vals.length = fd7.np → bindArgs (Calls.docDef fd7.name fd7.params (fd7.body.py (nmI fd7)) fd7.scope pm cd doc) ⟨vals, []⟩ = pure ((fd7.ls.take fd7.np).zip vals)
  | [_], _ => rfl
theorem oks7 {a : Addr} {cd : Value} (L : Addr) : okSs (nmI fd7) (envOf fd7.name fd7.scope L a cd) fd7.body := by
  repeat' (first | exact trivial | exact rfl | decide | refine And.intro ?_ ?_)
theorem fdok8 : FdOK gNm fNm fd8 := fdOK (by kernel_rfl)
theorem bind8 {pm cd doc : Value} : ∀ vals : List Value, vals.length = fd8.np → bindArgs (Calls.docDef fd8.name fd8.params (fd8.body.py (nmI fd8)) fd8.scope pm cd doc) ⟨vals, []⟩ = pure ((fd8.ls.take fd8.np).zip vals)
  | [_], _ => rfl
theorem oks8 {a : Addr} {cd : Value} (L : Addr) : okSs (nmI fd8) (envOf fd8.name fd8.scope L a cd) fd8.body := by
  repeat' (first | exact trivial | exact rfl | decide | refine And.intro ?_ ?_)
theorem fdok9 : FdOK gNm fNm fd9 := fdOK (by kernel_rfl)
theorem bind9 {pm cd doc : Value} : ∀ vals : List Value, vals.length = fd9.np → bindArgs (Calls.docDef fd9.name fd9.params (fd9.body.py (nmI fd9)) fd9.scope pm cd doc) ⟨vals, []⟩ = pure ((fd9.ls.take fd9.np).zip vals)
  | [_], _ => rfl
theorem oks9 {a : Addr} {cd : Value} (L : Addr) : okSs (nmI fd9) (envOf fd9.name fd9.scope L a cd) fd9.body := by
  repeat' (first | exact trivial | exact rfl | decide | refine And.intro ?_ ?_)
theorem fdok10 : FdOK gNm fNm fd10 := fdOK (by kernel_rfl)
theorem bind10 {pm cd doc : Value} : ∀ vals : List Value, vals.length = fd10.np → bindArgs (Calls.docDef fd10.name fd10.params (fd10.body.py (nmI fd10)) fd10.scope pm cd doc) ⟨vals, []⟩ = pure ((fd10.ls.take fd10.np).zip vals)
  | [], _ => rfl
theorem oks10 {a : Addr} {cd : Value} (L : Addr) : okSs (nmI fd10) (envOf fd10.name fd10.scope L a cd) fd10.body := by
  repeat' (first | exact trivial | exact rfl | decide | refine And.intro ?_ ?_)
theorem fdok11 : FdOK gNm fNm fd11 := fdOK (by kernel_rfl)
theorem bind11 {pm cd doc : Value} : ∀ vals : List Value, vals.length = fd11.np → bindArgs (Calls.docDef fd11.name fd11.params (fd11.body.py (nmI fd11)) fd11.scope pm cd doc) ⟨vals, []⟩ = pure ((fd11.ls.take fd11.np).zip vals)
  | [_], _ => rfl
theorem oks11 {a : Addr} {cd : Value} (L : Addr) : okSs (nmI fd11) (envOf fd11.name fd11.scope L a cd) fd11.body := by
  repeat' (first | exact trivial | exact rfl | decide | refine And.intro ?_ ?_)
theorem fdok12 : FdOK gNm fNm fd12 := fdOK (by kernel_rfl)
theorem bind12 {pm cd doc : Value} : ∀ vals : List Value, vals.length = fd12.np → bindArgs (Calls.docDef fd12.name fd12.params (fd12.body.py (nmI fd12)) fd12.scope pm cd doc) ⟨vals, []⟩ = pure ((fd12.ls.take fd12.np).zip vals)
  | [_], _ => rfl
theorem oks12 {a : Addr} {cd : Value} (L : Addr) : okSs (nmI fd12) (envOf fd12.name fd12.scope L a cd) fd12.body := by
  repeat' (first | exact trivial | exact rfl | decide | refine And.intro ?_ ?_)
theorem fdok13 : FdOK gNm fNm fd13 := fdOK (by kernel_rfl)
theorem bind13 {pm cd doc : Value} : ∀ vals : List Value, vals.length = fd13.np → bindArgs (Calls.docDef fd13.name fd13.params (fd13.body.py (nmI fd13)) fd13.scope pm cd doc) ⟨vals, []⟩ = pure ((fd13.ls.take fd13.np).zip vals)
  | [_, _], _ => rfl
theorem oks13 {a : Addr} {cd : Value} (L : Addr) : okSs (nmI fd13) (envOf fd13.name fd13.scope L a cd) fd13.body := by
  repeat' (first | exact trivial | exact rfl | decide | refine And.intro ?_ ?_)
theorem fdok14 : FdOK gNm fNm fd14 := fdOK (by kernel_rfl)
theorem bind14 {pm cd doc : Value} : ∀ vals : List Value, vals.length = fd14.np → bindArgs (Calls.docDef fd14.name fd14.params (fd14.body.py (nmI fd14)) fd14.scope pm cd doc) ⟨vals, []⟩ = pure ((fd14.ls.take fd14.np).zip vals)
  | [_], _ => rfl
theorem oks14 {a : Addr} {cd : Value} (L : Addr) : okSs (nmI fd14) (envOf fd14.name fd14.scope L a cd) fd14.body := by
  repeat' (first | exact trivial | exact rfl | decide | refine And.intro ?_ ?_)
theorem fdok15 : FdOK gNm fNm fd15 := fdOK (by kernel_rfl)
theorem bind15 {pm cd doc : Value} : ∀ vals : List Value, vals.length = fd15.np → bindArgs (Calls.docDef fd15.name fd15.params (fd15.body.py (nmI fd15)) fd15.scope pm cd doc) ⟨vals, []⟩ = pure ((fd15.ls.take fd15.np).zip vals)
  | [_, _], _ => rfl
theorem oks15 {a : Addr} {cd : Value} (L : Addr) : okSs (nmI fd15) (envOf fd15.name fd15.scope L a cd) fd15.body := by
  repeat' (first | exact trivial | exact rfl | decide | refine And.intro ?_ ?_)
theorem fdok16 : FdOK gNm fNm fd16 := fdOK (by kernel_rfl)
theorem bind16 {pm cd doc : Value} : ∀ vals : List Value, vals.length = fd16.np → bindArgs (Calls.docDef fd16.name fd16.params (fd16.body.py (nmI fd16)) fd16.scope pm cd doc) ⟨vals, []⟩ = pure ((fd16.ls.take fd16.np).zip vals)
  | [_, _, _], _ => rfl
theorem oks16 {a : Addr} {cd : Value} (L : Addr) : okSs (nmI fd16) (envOf fd16.name fd16.scope L a cd) fd16.body := by
  repeat' (first | exact trivial | exact rfl | decide | refine And.intro ?_ ?_)
theorem fdok17 : FdOK gNm fNm fd17 := fdOK (by kernel_rfl)
theorem bind17 {pm cd doc : Value} : ∀ vals : List Value, vals.length = fd17.np → bindArgs (Calls.docDef fd17.name fd17.params (fd17.body.py (nmI fd17)) fd17.scope pm cd doc) ⟨vals, []⟩ = pure ((fd17.ls.take fd17.np).zip vals)
  | [_], _ => rfl
theorem oks17 {a : Addr} {cd : Value} (L : Addr) : okSs (nmI fd17) (envOf fd17.name fd17.scope L a cd) fd17.body := by
  repeat' (first | exact trivial | exact rfl | decide | refine And.intro ?_ ?_)
theorem fdok18 : FdOK gNm fNm fd18 := fdOK (by kernel_rfl)
theorem bind18 {pm cd doc : Value} : ∀ vals : List Value, vals.length = fd18.np → bindArgs (Calls.docDef fd18.name fd18.params (fd18.body.py (nmI fd18)) fd18.scope pm cd doc) ⟨vals, []⟩ = pure ((fd18.ls.take fd18.np).zip vals)
  | [_], _ => rfl
theorem oks18 {a : Addr} {cd : Value} (L : Addr) : okSs (nmI fd18) (envOf fd18.name fd18.scope L a cd) fd18.body := by
  repeat' (first | exact trivial | exact rfl | decide | refine And.intro ?_ ?_)
theorem fdok19 : FdOK gNm fNm fd19 := fdOK (by kernel_rfl)
theorem bind19 {pm cd doc : Value} : ∀ vals : List Value, vals.length = fd19.np → bindArgs (Calls.docDef fd19.name fd19.params (fd19.body.py (nmI fd19)) fd19.scope pm cd doc) ⟨vals, []⟩ = pure ((fd19.ls.take fd19.np).zip vals)
  | [_], _ => rfl
theorem oks19 {a : Addr} {cd : Value} (L : Addr) : okSs (nmI fd19) (envOf fd19.name fd19.scope L a cd) fd19.body := by
  repeat' (first | exact trivial | exact rfl | decide | refine And.intro ?_ ?_)
/-- what the defs' objects are, wherever they lie -/
noncomputable def FnAt (K : Frag) (mg : Str → Option Value) (d : DefRec) : Prop := ∃ a o pm cd doc, mg d.name = some (.ref a) ∧ K.lookup a = some o ∧ o.data = .func (Calls.docDef d.name d.params d.body d.scope pm cd doc) ∧ ∀ h : Heap, K.In h → h.CodeRec cd d.name
theorem fn_call {prog : Program} {w : World} {K : Frag} {n : Nat} {W : Wd} {mg mb : Str → Option Value} {F : Fd} {d : DefRec} {xs : List V} {v : V} (D : FdOK gNm fNm F) (hd1 : d.name = F.name) (hd2 : d.params = F.params) (hd3 : d.body = F.body.py (nmI F)) (hd4 : d.scope = F.scope)
    (hbind : ∀ (pm cd doc : Value) (vals : List Value), vals.length = F.np → bindArgs (Calls.docDef F.name F.params (F.body.py (nmI F)) F.scope pm cd doc) ⟨vals, []⟩ = pure ((F.ls.take F.np).zip vals))
    (hok : ∀ (a : Addr) (cd : Value) (L : Addr), okSs (nmI F) (envOf F.name F.scope L a cd) F.body) (hW : WdOK prog w K n gNm fNm W mg mb) (hf : FnAt K mg d) (e : runB W F xs = some v) : CallOK prog w K (n + 1) mg mb F.name xs v := by
  obtain ⟨a, o, pm, cd, doc, h1, h2, h3, h4⟩ := hf
  rw [hd1] at h1 h3
  rw [hd2, hd3, hd4] at h3
  exact ⟨a, o, _, h1, h2, h3, fun X h₀ L m s vals S hv A Q E ha ht k => call_core D hW h2 h3 (hd1 ▸ h4) (hbind pm cd doc) (hok a cd) e S hv ha.toAOK0 ht k⟩
theorem wl_ok {prog : Program} {w : World} {K : Frag} {mg mb : Str → Option Value} (hG : ∀ i v, gl i = some v → GV prog w K mg (gNm i) v) (hB : ∀ i, i < 4 → mg (bName i) = none ∧ mb (bName i) = some (bVal i))
    (hF : ∀ d ∈ recs, FnAt K mg d) (h5 : ∀ n xs v, leftV xs = some v → CallOK prog w K (n + 1) mg mb (fNm 5) xs v) : ∀ n, WdOK prog w K n gNm fNm (WL n) mg mb
  | 0 => ⟨hG, fun _ _ _ e => (nomatch e), fun i e => hB i (by simpa [WL] using e)⟩
  | n + 1 => by
    have ih := wl_ok hG hB hF h5 n
    refine ⟨hG, fun f xs v e => ?_, fun i e => hB i (by simpa [WL] using e)⟩
    simp only [WL] at e
    split at e
    · rename_i h; subst h; exact h5 n xs v e
    · split at e <;> try (cases e; done)
      rename_i F hF'
      have key : ∀ f F, fds f = some F → runB (WL n) F xs = some v → CallOK prog w K (n + 1) mg mb (fNm f) xs v := by
        intro f F hF' e
        unfold fds at hF'
        split at hF' <;> cases hF'
        · exact fn_call fdok0 (d := rc0) rfl rfl rfl rfl (fun _ _ _ => bind0) (fun _ _ => oks0) ih (hF rc0 (by simp [recs])) e
        · exact fn_call fdok1 (d := rc1) rfl rfl rfl rfl (fun _ _ _ => bind1) (fun _ _ => oks1) ih (hF rc1 (by simp [recs])) e
        · exact fn_call fdok2 (d := rc2) rfl rfl rfl rfl (fun _ _ _ => bind2) (fun _ _ => oks2) ih (hF rc2 (by simp [recs])) e
        · exact fn_call fdok3 (d := rc3) rfl rfl rfl rfl (fun _ _ _ => bind3) (fun _ _ => oks3) ih (hF rc3 (by simp [recs])) e
        · exact fn_call fdok4 (d := rc4) rfl rfl rfl rfl (fun _ _ _ => bind4) (fun _ _ => oks4) ih (hF rc4 (by simp [recs])) e
        · exact fn_call fdok6 (d := rc6) rfl rfl rfl rfl (fun _ _ _ => bind6) (fun _ _ => oks6) ih (hF rc6 (by simp [recs])) e
        · exact fn_call fdok7 (d := rc7) rfl rfl rfl rfl (fun _ _ _ => bind7) (fun _ _ => oks7) ih (hF rc7 (by simp [recs])) e
        · exact fn_call fdok8 (d := rc8) rfl rfl rfl rfl (fun _ _ _ => bind8) (fun _ _ => oks8) ih (hF rc8 (by simp [recs])) e
        · exact fn_call fdok9 (d := rc9) rfl rfl rfl rfl (fun _ _ _ => bind9) (fun _ _ => oks9) ih (hF rc9 (by simp [recs])) e
        · exact fn_call fdok10 (d := rc10) rfl rfl rfl rfl (fun _ _ _ => bind10) (fun _ _ => oks10) ih (hF rc10 (by simp [recs])) e
        · exact fn_call fdok11 (d := rc11) rfl rfl rfl rfl (fun _ _ _ => bind11) (fun _ _ => oks11) ih (hF rc11 (by simp [recs])) e
        · exact fn_call fdok12 (d := rc12) rfl rfl rfl rfl (fun _ _ _ => bind12) (fun _ _ => oks12) ih (hF rc12 (by simp [recs])) e
        · exact fn_call fdok13 (d := rc13) rfl rfl rfl rfl (fun _ _ _ => bind13) (fun _ _ => oks13) ih (hF rc13 (by simp [recs])) e
        · exact fn_call fdok14 (d := rc14) rfl rfl rfl rfl (fun _ _ _ => bind14) (fun _ _ => oks14) ih (hF rc14 (by simp [recs])) e
        · exact fn_call fdok15 (d := rc15) rfl rfl rfl rfl (fun _ _ _ => bind15) (fun _ _ => oks15) ih (hF rc15 (by simp [recs])) e
        · exact fn_call fdok16 (d := rc16) rfl rfl rfl rfl (fun _ _ _ => bind16) (fun _ _ => oks16) ih (hF rc16 (by simp [recs])) e
        · exact fn_call fdok17 (d := rc17) rfl rfl rfl rfl (fun _ _ _ => bind17) (fun _ _ => oks17) ih (hF rc17 (by simp [recs])) e
        · exact fn_call fdok18 (d := rc18) rfl rfl rfl rfl (fun _ _ _ => bind18) (fun _ _ => oks18) ih (hF rc18 (by simp [recs])) e
        · exact fn_call fdok19 (d := rc19) rfl rfl rfl rfl (fun _ _ _ => bind19) (fun _ _ => oks19) ih (hF rc19 (by simp [recs])) e
      exact key f F hF' e
end Mine

namespace Mine
section
variable {prog : Program} {w : World} {A : Around} {R : Result → Shared → Prop} {s : Shared}
theorem compLoop_any {elt target iter : Expr} {scope : Scope} {pos : Pos} {it acc : Value} {env : Env} (I : Nat → Shared → Prop)
    (turn : ∀ n s, I n s → wpAny (model prog w) A (pyNext it) (fun r s₁ => match r with
      | none => R (.ok .next) s₁
      | some v => wpAny (model prog w) A (letOwnedTupleGo target it v) (fun _ s₁' => wpAny (model prog w) A (assign target env v) (fun _ s₂ => wpAny (model prog w) A (eval elt env) (fun x s₃ =>
          wpAny (model prog w) A (call (.builtin "list.append") [acc, x]) (fun _ s₄ => ∃ m, m < n ∧ I m s₄) (notedBy (model prog w) A env fun e s' => R (.error e) s') s₃)
          (notedBy (model prog w) A env fun e s' => R (.error e) s') s₂) (notedBy (model prog w) A env fun e s' => R (.error e) s') s₁') (notedBy (model prog w) A env fun e s' => R (.error e) s') s₁) (notedBy (model prog w) A env fun e s' => R (.error e) s') s)
    (n : Nat) (h : I n s) : codeAny (model prog w) A (.compLoop (.ListComp elt [⟨target, iter, [], 0⟩] scope pos) 0 it acc env) R s := by
  refine codeAny_loop rfl I (fun n s hI => ?_) n h
  show wpAny _ _ ((compTurn (.ListComp elt [⟨target, iter, [], 0⟩] scope pos) 0 it acc env).onRaise (fun x => do noteFrame x env; theTreesLotGoes x)) _ _ s
  refine wpAny_noted ?_
  rw [compTurn_list1]
  refine wpAny_bind (wpAny_standAt (wpAny_bind (wpAny_mono (turn n s hI) (fun r s₁ h₁ => ?_) fun _ _ y => y)))
  cases r with
  | none => exact wpAny_pure h₁
  | some v =>
    refine wpAny_bind (wpAny_mono h₁ (fun _ s₂ h₂ => wpAny_bind (wpAny_mono h₂ (fun _ s₃ h₃ => ?_) fun _ _ y => y)) fun _ _ y => y)
    exact wpAny_bind (wpAny_bind (wpAny_mono h₃ (fun x s₄ h₄ => wpAny_bind (wpAny_mono h₄ (fun _ s₅ h₅ => wpAny_pure (wpAny_pure ⟨rfl, h₅⟩)) fun _ _ y => y)) fun _ _ y => y))
end
noncomputable def W0 : Wd := ⟨fun _ => none, fun _ _ => none, fun _ => false⟩
/-- what a comprehension gives -/
noncomputable def compV (t : Tg) (elt : E) : List V → Sg → Option (List V)
  | [], _ => some []
  | u :: l, σ => match storeG σ t u with
    | none => none
    | some σ1 => match ev W0 (frz σ1) elt with
      | none => none
      | some y => match compV t elt l σ1 with
        | some ys => some (y :: ys)
        | none => none
theorem compV_len {t : Tg} {elt : E} : ∀ {l : List V} {σ : Sg} {us : List V}, compV t elt l σ = some us → us.length = l.length
  | [], _, _, e => by cases e; rfl
  | u :: l, σ, us, e => by
    simp only [compV] at e
    split at e <;> try (cases e; done)
    split at e <;> try (cases e; done)
    split at e <;> cases e
    rename_i h
    simp [compV_len h]
section
variable {prog : Program} {w : World} {K : Frag} {n : Nat} {N Nc : Nm} {W : Wd} {X Y O : Ex} {σ σc : Sg} {α : Nat → Addr} {env : Env} {h₀ h h' : Heap} {m mg mb : Str → Option Value} {s : Shared}
/-- what the comprehension's own frame is: names of its own, the outer cells -/
structure CompIn (prog : Program) (w : World) (Nc : Nm) (X : Ex) (σc : Sg) (scope : Scope) (cl : List (Str × Addr)) (env : Env) (h : Heap) : Prop where
  hk : scope.kind = .function
  hcell : ∀ y ∈ scope.names, y.2 ≠ .cell
  un : ∀ (i : Nat) (s : Sl), σc[i]? = some s → s = Sl.un ∨ ∃ v, s = Sl.cl v
  kd : ∀ i, σc[i]? = some .un → (Nc.l i == ("__debug__" : Str)) = false ∧ (relabel scope env).names.lookup (Nc.l i) = some .local
  cl : ∀ i v, σc[i]? = some (.cl v) → (Nc.l i == ("__debug__" : Str)) = false ∧ (relabel scope env).names.lookup (Nc.l i) = some .cell ∧ ∃ c val, cl.lookup (Nc.l i) = some c ∧ ¬ X c ∧ h.IsCell c (some val) ∧ VR prog w X h v val
  nj : ∀ i j, i < σc.length → j < σc.length → Nc.l i = Nc.l j → i = j
theorem comp_ok {t : Tg} {elt : E} {iter : PE} {scope : Scope} {cl : List (Str × Addr)} {pos : Pos} {l us : List V} {A : Around} {I : Addr} {fp wr : List Addr} {P Md : Nat → Value → Heap → Prop} {Stt : Nat → Heap → Prop} {s2 : Shared} {E : Value → Shared → Prop} {RR : Value → Addr → Result → Shared → Prop}
    (ha : AOK n A) (W1 : KTurns prog w A (t.py Nc) I fp wr l.length P Md Stt) (self : ∀ i (s : Shared) (Q : Value → Shared → Prop) (E : Value → Shared → Prop), Stt i s.heap → Q (.ref I) s → wpAny (model prog w) A (pyIter (.ref I)) Q E s) (Ky : Ex → Heap → Prop)
    (hKy : ∀ X X' h h', Ky X h → (∀ b o, ¬ X b → h.get? b = some o → h'.get? b = some o) → (∀ a o, h.get? a = some o → X' a → X a) → Ky X' h')
    (hit : ∀ i v h X u, P i v h → Ky X h → l[i]? = some u → ItR prog w t X h u v) (hex : ∀ i h, Stt i h → ∀ b ∈ wr, ∃ o, h.get? b = some o)
    (hC : CompIn prog w Nc X σc scope cl env s.heap) (eg : env.globals = mainGlobals) (eb : env.builtins = builtinsNs)
    (S : St prog K mg mb X h₀ env.locals m s.heap) (sub : Sub s.heap s2.heap) (hsz : s.heap.objs.size ≤ s2.heap.objs.size) (hst : Stt 0 s2.heap) (hky : Ky X s.heap) (fresh : ∀ b ∈ wr, s.heap.get? b = none)
    (hfp : ∀ b ∈ fp, b ∈ wr ∨ (∃ o, s.heap.get? b = some o)) (ht : 1 ≤ s2.toks) (e : compV t elt l σc = some us) (hl : l.length ≤ big)
    (hRR : ∀ D C h' tk m', 1 ≤ tk → Sub s.heap h' → s.heap.get? D = none → s.heap.get? C = none → C ≠ D → h'.Ns C m' → VR prog w (fun a => X a ∨ a = C) h' (.lst us) (.ref D) → RR (.ref D) C (.ok .next) { s2 with heap := h', toks := tk }) :
    wpAny (model prog w) A (newList []) (fun acc s₃ => wpAny (model prog w) A (newFunctionEnv scope env.globals cl [] env.qual none .none (some env)) (fun cenv s₄ =>
      codeAny (model prog w) A (.compStart (.ListComp (elt.py Nc) [⟨t.py Nc, iter, [], 0⟩] scope pos) 0 (.ref I) acc { cenv with scope := relabel scope env }) (RR acc cenv.locals) s₄) E s₃) E s2 := by
  refine wpAny_newList (wpAny_newFunctionEnv hC.hcell (by intro y hy; simp at hy) (fun h₁ hns hsb => ?_) hC.hk)
  dsimp only at hns hsb ⊢
  generalize hH2 : s2.heap.push { cls := .type "list", data := .seq ([] : List Value).toArray } = H2 at hns hsb ⊢
  have hCn : H2.objs.size = s2.heap.objs.size + 1 := by rw [← hH2, Heap.size_push]
  generalize hDD : s2.heap.objs.size = D at hCn ⊢
  generalize hCC : H2.objs.size = C at hns hsb hCn ⊢
  have big_none : ∀ a, s.heap.objs.size ≤ a → s.heap.get? a = none := fun a q => by
    cases z : s.heap.get? a with
    | none => rfl
    | some o => exact absurd (Heap.lt_size z) (Nat.not_lt.mpr q)
  have hD0 : s.heap.get? D = none := big_none D (hDD ▸ hsz)
  have hC0 : s.heap.get? C = none := big_none C (by rw [hCn]; rw [hDD] at hsz; exact Nat.le_succ_of_le hsz)
  have hCD : C ≠ D := by rw [hCn]; exact Nat.succ_ne_self D
  have oldP : ∀ b o, s2.heap.get? b = some o → h₁.get? b = some o := fun b o q => by
    have hb : b < D := hDD ▸ Heap.lt_size q
    exact hsb.extBut b o (by rw [hCn]; exact Nat.ne_of_lt (Nat.lt_succ_of_lt hb)) (Heap.get?_push_of_some _ (hH2 ▸ Heap.get?_push_of_some _ q))
  have old : Sub s.heap h₁ := fun b o q => oldP b o (sub b o q)
  have hacc : h₁.get? D = some { cls := .type "list", data := .seq ([] : List Value).toArray } := by
    refine hsb.extBut _ _ (Ne.symm hCD) (Heap.get?_push_of_some _ ?_)
    rw [← hH2, ← hDD]
    exact Heap.get?_push_size _ rfl
  have frw : ∀ b ∈ wr, ∀ o, s.heap.get? b ≠ some o := fun b hb o q => by rw [fresh b hb] at q; cases q
  have wr2 : ∀ b ∈ wr, b < D := fun b hb => by
    obtain ⟨o, ho⟩ := hex 0 _ hst b hb
    exact hDD ▸ Heap.lt_size ho
  have Dw : D ∉ wr := fun hm => Nat.lt_irrefl _ (wr2 D hm)
  have Cw : C ∉ wr := fun hm => by have := wr2 C hm; rw [hCn] at this; exact absurd this (Nat.not_lt.mpr (Nat.le_succ D))
  have Xs : ∀ a, X a → ∃ o, s.heap.get? a = some o := S.xd
  have fp2 : ∀ b ∈ fp, b ≠ C ∧ b ≠ D := fun b hb => by
    rcases hfp b hb with y | ⟨o, y⟩
    · exact ⟨fun q => Cw (q ▸ y), fun q => Dw (q ▸ y)⟩
    · exact ⟨fun q => (by rw [q, hC0] at y; cases y), fun q => (by rw [q, hD0] at y; cases y)⟩
  have hst1 : Stt 0 h₁ := W1.frame _ _ _ hst fun b hb o q => oldP b o q
  let Yc : Ex := fun a => X a ∨ a = C ∨ a = D ∨ a ∈ wr
  have hYX : ∀ a o, s.heap.get? a = some o → Xo Yc (fun _ => False) a → X a := fun a o q y => by
    rcases y with (y | y | y | y) | y
    · exact y
    · rw [y, hC0] at q; cases q
    · rw [y, hD0] at q; cases q
    · exact (frw a y o q).elim
    · exact y.elim
  have xkc : ∀ b o, K.lookup b = some o → ¬ Xo Yc (fun _ => False) b := fun b o q y => S.xk b o q (hYX b o (S.hb.k b o q) y)
  have Rc : RS prog w K n Nc W0 mg mb Yc (fun _ => False) σc (fun _ => 0) (compEnvC scope cl C env) s.heap (fun x => ([] : List (Str × Value)).reverse.lookup x) h₁ := by
    refine { cx := { st := ⟨S.hb, .inl (.inr (.inl rfl)), fun b y => ?_, ⟨hns, old, ?_⟩, xkc⟩, eg := eg, eb := eb, ek := hC.hk, loc := ?_, glo := fun _ _ z => (nomatch z), fn := fun _ _ _ z => (nomatch z), blt := fun _ z => (nomatch z) }, ol := fun _ y => y.elim, yl := .inr (.inl rfl), inj := fun i _ u _ z => ?_, ow := fun i u z => ?_, kd := fun i u z hu => ?_, nj := hC.nj }
    · rcases y with (y | y | y | y) | y
      · obtain ⟨o, ho⟩ := Xs b y
        exact ⟨o, old b o ho⟩
      · obtain ⟨o, _, _, ho, _⟩ := hns
        exact ⟨o, y ▸ ho⟩
      · exact ⟨_, y ▸ hacc⟩
      · exact hex 0 _ hst1 b y
      · exact y.elim
    · show s.heap.objs.size ≤ C
      rw [hCn]; rw [hDD] at hsz; exact Nat.le_succ_of_le hsz
    · intro i v z
      rcases frz_get.mp z with z | z
      · rcases hC.un i _ z with q | ⟨u, q⟩ <;> cases q
      · obtain ⟨a, b, c, val, d1, d2, ⟨oc, d3, d4⟩, d5⟩ := hC.cl i v z
        refine ⟨a, .inr ⟨b, c, val, d1, fun y => d2 (hYX c oc d3 y), ⟨oc, old c oc d3, d4⟩, d5.mono (fun a o _ q => old a o q) hYX⟩⟩
    · rcases hC.un i _ z with q | ⟨u, q⟩ <;> cases q
    · rcases hC.un i _ z with q | ⟨u, q⟩ <;> cases q
    · rcases hC.un i _ z with q | ⟨v, q⟩
      · subst q; exact hC.kd i z
      · subst q; exact hu.elim
  have kyc : Ky (Xo Yc (fun _ => False)) h₁ := hKy _ _ _ _ hky (fun b o _ q => old b o q) hYX
  have nx : ∀ {σ' : Sg} {m' : Str → Option Value} {g₁ g₂ : Heap}, RS prog w K n Nc W0 mg mb Yc (fun _ => False) σ' (fun _ => 0) (compEnvC scope cl C env) s.heap m' g₁ → (∀ b o, b ∉ wr → g₁.get? b = some o → g₂.get? b = some o) → Fr s.heap C g₂ m' := fun R₁ hk =>
    ⟨R₁.fr.ns.at' fun o q => hk _ o Cw q, fun b o q => hk b o (fun hm => frw b hm o q) (R₁.fr.keep b o q), R₁.fr.above⟩
  have loop : codeAny (model prog w) A (.compLoop (.ListComp (elt.py Nc) [⟨t.py Nc, iter, [], 0⟩] scope pos) 0 (.ref I) (.ref D) (compEnvC scope cl C env)) (RR (.ref D) C) { s2 with heap := h₁, toks := s2.toks + ([] : List (Str × Value)).length } := by
    refine compLoop_any (fun k s' => ∃ i ys vals σ' m' h' tk us', s' = { s2 with heap := h', toks := tk } ∧ 1 ≤ tk ∧ Stt i h' ∧ RS prog w K n Nc W0 mg mb Yc (fun _ => False) σ' (fun _ => 0) (compEnvC scope cl C env) s.heap m' h' ∧ Ky (Xo Yc (fun _ => False)) h' ∧
        LstAt h' D vals ∧ VRs prog w (Xo Yc (fun _ => False)) h' ys vals ∧ ys.length = i ∧ compV t elt (l.drop i) σ' = some us' ∧ us = ys ++ us' ∧ i ≤ l.length ∧ k = l.length - i) ?_ l.length
      ⟨0, [], [], σc, _, h₁, _, us, rfl, by show 1 ≤ s2.toks + 0; omega, hst1, Rc, kyc, ⟨_, hacc⟩, rfl, rfl, by simpa using e, rfl, Nat.zero_le _, by simp⟩
    rintro k s' ⟨i, ys, vals, σ', m', h', tk, us', rfl, ht', hst', R₁, ky₁, hD, hv, hyl, e₁, eu, hi, rfl⟩
    by_cases hlt : i < l.length
    · refine wpAny_with_toks (n := 1) ht' (W1.item i _ _ _ hlt hst' fun v g₁ tk₁ hMd hk₁ => ?_)
      intro q1
      have q1 : 1 ≤ tk₁ := q1
      refine W1.go i v _ _ _ hMd fun g₂ hP hst₂ hk₂ => ?_
      have hk12 : ∀ b o, b ∉ wr → h'.get? b = some o → g₂.get? b = some o := fun b o hb q => hk₂ b o hb (hk₁ b o hb q)
      have hkX : ∀ b o, ¬ Xo Yc (fun _ => False) b → h'.get? b = some o → g₂.get? b = some o := fun b o hb q => hk12 b o (fun hm => hb (.inl (.inr (.inr (.inr hm))))) q
      have R₂ : RS prog w K n Nc W0 mg mb Yc (fun _ => False) σ' (fun _ => 0) (compEnvC scope cl C env) s.heap m' g₂ := by
        refine R₁.move (fun b o hb _ q => hk12 b o (fun hm => hb (.inr (.inr (.inr hm)))) q) (fun a o _ y => y) R₁.yl (fun a y => ?_) (fun a y => y.elim) (nx R₁ hk12)
        by_cases hm : a ∈ wr
        · exact hex _ _ hst₂ a hm
        · obtain ⟨o, ho⟩ := R₁.cx.st.xd a y
          exact ⟨o, hk12 a o hm ho⟩
      have ky₂ := hKy _ _ _ _ ky₁ hkX fun _ _ _ y => y
      have hu : l[i]? = some l[i] := List.getElem?_eq_getElem hlt
      rw [List.drop_eq_getElem_cons hlt] at e₁
      simp only [compV] at e₁
      split at e₁ <;> try (cases e₁; done)
      rename_i σ1 hs1
      split at e₁ <;> try (cases e₁; done)
      rename_i y hy
      split at e₁ <;> cases e₁
      rename_i ys2 hys2
      refine tgt_ok ha.hd R₂ (hit i v g₂ _ _ hP ky₂ hu) hs1 fun g₃ m₃ tk₃ hk3 R₃ gl₃ => ?_
      have ht3 : 1 ≤ tk₃ := by have : tk₁ ≤ tk₃ := hk3; omega
      refine ev_ok elt hy R₃.cx ha ht3 fun yv g₄ t4 q4 F4 gl4 v4 => ?_
      have gl34 : GL C g₂ g₄ := gl₃.trans gl4
      have R₄ := R₃.gl F4 gl4
      have hD4 : LstAt g₄ D vals := let ⟨nn, q⟩ := hD; ⟨nn, gl34 D _ (Ne.symm hCD) (hk12 D _ Dw q)⟩
      obtain ⟨nn, hD4⟩ := hD4
      have hv4 : VRs prog w (Xo Yc (fun _ => False)) g₄ ys vals := (hv.mono hkX fun _ _ _ y => y).gl (.inl R₂.yl) gl34
      refine wpAny_list_append_plain ⟨nn, hD4⟩ (fun g₅ hp5 sb => ?_) (by rw [List.size_toArray, hv.length, sizeLine_eq]; unfold big at hl; omega)
      have hk5 : ∀ b o, ¬ Xo Yc (fun _ => False) b → g₄.get? b = some o → g₅.get? b = some o := fun b o hb q => (sb.2 b fun z => hb (.inl (.inr (.inr (.inl z))))).trans q
      obtain ⟨n5, hp5⟩ := hp5
      refine ⟨l.length - (i + 1), by omega, i + 1, ys ++ [y], vals ++ [yv], σ1, m₃, g₅, t4, ys2, rfl, q4, ?_, ?_, ?_, ⟨n5, by rw [hp5]; simp⟩, ?_, by simp [hyl], hys2, by simp [eu], hlt, rfl⟩
      · refine W1.frame _ _ _ hst₂ fun b hb o q => (sb.2 b (fp2 b hb).2).trans (gl34 b o (fp2 b hb).1 q)
      · refine R₄.move (fun b o hb _ q => (sb.2 b fun z => hb (.inr (.inr (.inl z)))).trans q) (fun a o _ y => y) R₄.yl (fun a y => ?_) (fun a y => y.elim) (R₄.fr.change sb (Ne.symm hCD) hD0)
        obtain ⟨o, ho⟩ := R₄.cx.st.xd a y
        by_cases z : a = D
        · exact ⟨_, z ▸ hp5⟩
        · exact ⟨o, (sb.2 a z).trans ho⟩
      · refine hKy _ _ _ _ (hKy _ _ _ _ ky₂ (fun b o hb q => gl34 b o (fun z => hb (.inl (.inr (.inl z)))) q) fun _ _ _ y => y) hk5 fun _ _ _ y => y
      · exact ((VRs.append (k := [y]) hv4 ⟨yv, [], rfl, v4, rfl⟩).mono hk5 fun _ _ _ y => y)
    · have hin : i = l.length := by omega
      subst hin
      refine wpAny_with_toks (n := 1) ht' (W1.done _ _ _ hst' fun g₁ tk₁ hk₁ => ?_)
      intro q1
      rw [List.drop_length] at e₁
      cases e₁
      rw [List.append_nil] at eu
      subst eu
      have hF := nx R₁ hk₁
      refine hRR D C g₁ tk₁ m' q1 hF.keep hD0 hC0 hCD hF.ns ?_
      refine ⟨D, vals, rfl, fun y => ?_, ?_, ?_⟩
      · rcases y with y | y
        · obtain ⟨o, ho⟩ := Xs D y
          rw [hD0] at ho; cases ho
        · exact hCD y.symm
      · obtain ⟨nn, q⟩ := hD; exact ⟨nn, hk₁ D _ Dw q⟩
      · exact hv.mono (fun b o hb q => hk₁ b o (fun hm => hb (.inl (.inr (.inr (.inr hm))))) q) fun a o _ y => y.elim (fun y => .inl (.inl y)) fun y => .inl (.inr (.inl y))
  exact codeAny_compStart_list loop (self 0 _ _ _ hst1 loop)
end
end Mine

namespace Mine
section
variable {prog : Program} {w : World} {A : Around} {s : Shared}
/-- a call of a def with cells of its own; some token is drawn before -/
theorem call_cells_t {a : Addr} {o : Obj} {fd : FuncData} {body : List Stmt} {vals : List Value} {binds : List (Str × Value)} {Q E : Value → Shared → Prop}
    (hroom : A.depth < recursionLimit) (ho : s.heap.get? a = some o) (hdata : o.data = .func fd) (hlim : s.heap.NoLimit) (hcd : s.heap.CodeRec fd.code fd.qualname)
    (hbody : fd.body = .stmts body) (hbind : bindArgs fd ⟨vals, []⟩ = pure binds) (hclo : fd.closure = []) (ht : 1 ≤ s.toks)
    (hkind : ∀ x ∈ binds, fd.scope.names.lookup x.1 = some .local ∨ (fd.scope.names.lookup x.1 = some .cell ∧ ((cellsFrom (s.heap.objs.size + 1) fd.scope.names []).lookup x.1).isSome = true))
    (h : ∀ s₁, 1 ≤ s₁.toks → InCallC s (callEnvC fd s.heap.objs.size a).locals (bindL (callEnvC fd s.heap.objs.size a).kindOf binds fun _ => none) (callEnvC fd s.heap.objs.size a).cells
        (bindC (callEnvC fd s.heap.objs.size a).kindOf binds fun _ => none) s₁ →
      wpAny (model prog w) (A.deeper (callEnvC fd s.heap.objs.size a)) (execs body (callEnvC fd s.heap.objs.size a)) (fun f s' => Q (match f with
        | .ret v => v
        | _ => .none) s') (fun _ _ => False) s₁)
    (hco : fd.scope.isCoroutine = false) (hgen : fd.scope.isGenerator = false) (hk : fd.scope.kind = .function) :
    wpAny (model prog w) A (call (.ref a) vals) Q E s := by
  refine wpAny_call (codeAny_call_function hroom ho hdata hco hgen hbody hcd ?_)
  rw [hbind, hclo]
  refine wpAny_pure (wpAny_with_toks (n := 1) ht (wpAny_newFunctionEnv_cells hk hkind fun env he s' x => fun q => ?_))
  subst he
  exact ⟨hlim.keeps x.toInCall.keep, codeAny_func (wpAny_mono (h s' q x) (fun _ _ y => y) fun _ _ y => y.elim)⟩
end
noncomputable def vB : V → Bool
  | .bool c => c
  | _ => false
noncomputable def WL5 : Wd := ⟨fun i => if i = 2 ∨ i = 13 then gl i else none, fun _ _ => none, fun _ => false⟩
noncomputable def Nc5 : Nm := ⟨fun i => match i with
  | 0 => Str.ofString "least"
  | 1 => Str.ofString "most"
  | _ => Str.ofString "code", gNm, fNm⟩
noncomputable def elt5 : E := .chn (.loc 0 (P 81 16 81 21)) .LtE (.loc 2 (P 81 25 81 29)) .LtE (.loc 1 (P 81 33 81 37)) (P 81 16 81 37)
noncomputable def tg5 : Tg := .tp [(0, P 81 42 81 47), (1, P 81 49 81 53)] 0 (P 81 42 81 53)
theorem comp5_eq : comp5 = .ListComp (elt5.py Nc5) [⟨tg5.py Nc5, nmE "LEFT_RANGES" (P 81 57 81 68), [], 0⟩] sc5c (P 81 15 81 69) := rfl
section
variable {prog : Program} {w : World} {K : Frag} {n : Nat} {mg mb : Str → Option Value}
theorem left_comp (x : Int) : ∀ (l : List V) (σ : Sg) (b : Bool), (∃ u0 u1, σ = [u0, u1, .cl (.int x)] ∧ (u0 = .un ∨ ∃ v, u0 = .fr v) ∧ (u1 = .un ∨ ∃ v, u1 = .fr v)) → (∀ u ∈ l, ∃ a c, u = .tup [.int a, .int c]) → leftIn x l = b → ∃ us, compV tg5 elt5 l σ = some us ∧ (∀ u ∈ us, ∃ c, u = .bool c) ∧ us.any vB = b
  | [], σ, b, _, _, e => ⟨[], rfl, fun u hu => (nomatch hu), e⟩
  | u :: l, σ, b, ⟨u0, u1, hs, h0, h1⟩, hl, e => by
    obtain ⟨a, c, rfl⟩ := hl u (List.mem_cons_self ..)
    subst hs
    have st : storeG [u0, u1, .cl (.int x)] tg5 (.tup [.int a, .int c]) = some [.fr (.int a), .fr (.int c), .cl (.int x)] := by
      rcases h0 with rfl | ⟨v0, rfl⟩ <;> rcases h1 with rfl | ⟨v1, rfl⟩ <;> rfl
    have evv : ev W0 (frz [.fr (.int a), .fr (.int c), .cl (.int x)]) elt5 = some (.bool (decide (a ≤ x) && decide (x ≤ c))) := by
      show (match (some (decide (a ≤ x)) : Option Bool) with
        | some true => (some (decide (x ≤ c))).map V.bool
        | some false => some (.bool false)
        | none => none) = _
      by_cases q : a ≤ x
      · simp [q]
      · simp [q]
    obtain ⟨us, e1, e2, e3⟩ := left_comp x l [.fr (.int a), .fr (.int c), .cl (.int x)] (leftIn x l) ⟨_, _, rfl, .inr ⟨_, rfl⟩, .inr ⟨_, rfl⟩⟩ (fun v hv => hl v (List.mem_cons_of_mem _ hv)) rfl
    refine ⟨.bool (decide (a ≤ x) && decide (x ≤ c)) :: us, ?_, fun v hv => ?_, ?_⟩
    · simp only [compV, st, evv, e1]
    · rcases List.mem_cons.mp hv with rfl | hv
      · exact ⟨_, rfl⟩
      · exact e2 v hv
    · rw [List.any_cons, e3, ← e]; rfl
/-- any of a list of bools -/
theorem any_ok {X : Ex} {h₀ : Heap} {L : Addr} {m : Str → Option Value} {s : Shared} {us : List V} {lv : Value} (S : St prog K mg mb X h₀ L m s.heap) (hv : VR prog w X s.heap (.lst us) lv) (hb : ∀ u ∈ us, ∃ c, u = V.bool c) :
    WP prog w n X h₀ L m s (call (.builtin "any") [lv]) (.bool (us.any vB)) := by
  intro A Q E ha k
  obtain ⟨a, xs, rfl, hX, ho, hl⟩ := hv
  have hax : ∃ o, s.heap.get? a = some o := let ⟨nn, q⟩ := ho; ⟨_, q⟩
  have hlt : a < s.heap.objs.size := by obtain ⟨o, q⟩ := hax; exact Heap.lt_size q
  have hne : a ≠ s.heap.objs.size := Nat.ne_of_lt hlt
  have up : ∀ o, Sub s.heap (s.heap.push o) := fun o b o' e => Heap.get?_push_of_some _ e
  let tr : Nat → Bool := fun i => ((us[i]?).map vB).getD false
  refine call_any_walk (wpAny_pyIter_list ho.l ⟨_, _, _, _, _, _, tr, rfl, Walks.list (prog := prog) (w := w) (A := A.in1) ha.hd s.heap.objs.size a hne (List.toArray xs), ⟨⟨_, Heap.get?_push_size _ rfl, rfl, rfl⟩, ho.l.push _⟩, ?_, fun h' tk hk => ?_⟩)
  · intro i v s' Q E hP hq
    have hi : i < us.length := by
      have hP' : (List.toArray xs)[i]? = some v := hP
      have : xs[i]? = some v := by simpa using hP'
      rw [List.getElem?_eq_some_iff] at this
      rw [← hl.length]; exact this.1
    obtain ⟨c, hc⟩ := hb us[i] (List.getElem_mem hi)
    have hu : us[i]? = some (.bool c) := by rw [List.getElem?_eq_getElem hi, hc]
    have this := hl.gets hu hP
    cases this
    have e1 : tr i = c := by
      show ((us[i]?).map vB).getD false = c
      rw [hu]; rfl
    rw [e1] at hq
    exact wpAny_truthy_bool hq
  · have hs : Sub s.heap h' := fun b o q => hk b o (fun hm => by rw [List.mem_singleton.mp hm] at q; exact absurd (Heap.lt_size q) (Nat.lt_irrefl _)) (up _ b o q)
    have ee : (List.range (List.toArray xs).size).any tr = us.any vB := by
      rw [List.size_toArray, hl.length]
      rw [Bool.eq_iff_iff, List.any_eq_true, List.any_eq_true]
      constructor
      · rintro ⟨i, hi, q⟩
        have hi := List.mem_range.mp hi
        refine ⟨us[i], List.getElem_mem hi, ?_⟩
        have q' : ((us[i]?).map vB).getD false = true := q
        rw [List.getElem?_eq_getElem hi] at q'
        exact q'
      · rintro ⟨u, hu, q⟩
        obtain ⟨i, hi, rfl⟩ := List.mem_iff_getElem.mp hu
        refine ⟨i, List.mem_range.mpr hi, ?_⟩
        show ((us[i]?).map vB).getD false = true
        rw [List.getElem?_eq_getElem hi]
        exact q
    rw [ee]
    exact k _ h' tk ⟨S.f.ns.keeps hs, fun b o q => hs b o (S.f.keep b o q), S.f.above⟩ (GL.of_sub hs) rfl
end
end Mine

namespace Mine
section
variable {prog : Program} {w : World} {K : Frag} {n : Nat} {N : Nm} {W : Wd} {Y O : Ex} {env : Env} {h₀ : Heap} {mg mb : Str → Option Value}
/-- a body's first part, then the rest -/
theorem exs_then : ∀ (l : Ss) (rest : List PS) {O : Ex} {σ : Sg} {α : Nat → Addr} {m : Str → Option Value} {s : Shared} {oc : Oc} {A : Around} {Q : Flow → Shared → Prop} {E : Value → Shared → Prop}, exs W l σ = some oc → okSs N env l → RS prog w K n N W mg mb Y O σ α env h₀ m s.heap → AOK n A → 1 ≤ s.toks →
    (∀ σ', oc = .nx σ' → ∀ O' α' m' h' tk, 1 ≤ tk → Gr env.locals O s.heap O' h' → RS prog w K n N W mg mb Y O' σ' α' env h₀ m' h' → wpAny (model prog w) A (execs rest env) Q E { s with heap := h', toks := tk }) →
    (∀ v, oc = .rt v → ∀ val m' h' tk, 1 ≤ tk → Fr h₀ env.locals h' m' → VR prog w Y h' v val → Q (.ret val) { s with heap := h', toks := tk }) → wpAny (model prog w) A (execs (l.py N ++ rest) env) Q E s
  | .nil, rest, O, σ, α, m, s, oc, A, Q, E, e, ok, R, ha, ht, kn, kr => by
    simp only [exs, Option.some.injEq] at e
    exact kn σ e.symm O α m s.heap s.toks ht Gr.refl R
  | .cons st l, rest, O, σ, α, m, s, oc, A, Q, E, e, ok, R, ha, ht, kn, kr => by
    simp only [exs] at e
    show wpAny (model prog w) A (execs (st.py N :: (l.py N ++ rest)) env) Q E s
    split at e <;> try (cases e; done)
    · rename_i σ' h1
      refine wpAny_execs_cons (ex_ok st h1 ok.1 R ha ht fun fl h' tk q o => ?_)
      obtain ⟨rfl, O', α', m', G', R'⟩ := o
      exact exs_then l rest (s := { s with heap := h', toks := tk }) e ok.2 R' ha q (fun σ2 e2 O2 α2 m2 h2 t2 q2 G2 R2 => kn σ2 e2 O2 α2 m2 h2 t2 q2 (G'.trans G2) R2) kr
    · rename_i v h1
      cases e
      refine wpAny_execs_cons (ex_ok st h1 ok.1 R ha ht fun fl h' tk q o => ?_)
      obtain ⟨val, m', rfl, F', V'⟩ := o
      exact kr v rfl val m' h' tk q F' V'
end
section
variable {prog : Program} {w : World} {K : Frag} {n : Nat} {mg mb : Str → Option Value}
noncomputable abbrev fd5 (pm cd doc : Value) : FuncData := Calls.docDef (Str.ofString "is_left_out") ar5 body5 sc5 pm cd doc
theorem env5_cells (pm cd doc : Value) (L a : Addr) : (callEnvC (fd5 pm cd doc) L a).cells = [(Str.ofString "code", L + 1)] := rfl
theorem left_call (hG : ∀ i v, gl i = some v → GV prog w K mg (gNm i) v) (hA : mg (Str.ofString "any") = none ∧ mb (Str.ofString "any") = some (.builtin "any")) (hF : FnAt K mg rc5) (xs : List V) (v : V) (e : leftV xs = some v) : CallOK prog w K (n + 1) mg mb (fNm 5) xs v := by
  obtain ⟨a, o, pm, cd, doc, h1, h2, h3, h4⟩ := hF
  refine ⟨a, o, _, h1, h2, h3, fun X h₀ L m s vals S hv A Q E ha ht k => ?_⟩
  have key : ∃ x, xs = [.int x] ∧ v = .bool (if x = 253 then true else leftIn x [.tup [.int 42, .int 43], .tup [.int 56, .int 57], .tup [.int 67, .int 68], .tup [.int 91, .int 102], .tup [.int 139, .int 166], .tup [.int 168, .int 171], .tup [.int 174, .int 191], .tup [.int 64512, .int 64519]]) := by
    unfold leftV at e
    split at e
    · rename_i x
      refine ⟨x, rfl, ?_⟩
      split at e
      · rename_i q; cases e; simp [q]
      · rename_i q
        simp only [gLEFT_RANGES] at e
        cases e
        simp [q]
    · cases e
  obtain ⟨x, rfl, rfl⟩ := key
  obtain ⟨val, r, rfl, ⟨t, rfl⟩, hr⟩ := hv
  cases hr
  refine call_cells_t (binds := [(Str.ofString "code", .int x t)]) ha.room (S.hb.k a o h2) h3 S.hb.lim (h4 _ S.hb.k) rfl rfl rfl ht (fun y hy => ?_) (fun s₁ t1 x1 => ?_) rfl rfl rfl
  · rw [List.mem_singleton.mp hy]
    exact .inr ⟨rfl, rfl⟩
  generalize hL : s.heap.objs.size = L' at x1 ⊢
  obtain ⟨h1', tk1, hs1⟩ := x1.toInCall.same
  subst hs1
  have t1 : 1 ≤ tk1 := t1
  obtain ⟨m1, ns1⟩ : ∃ m1, h1'.Ns L' m1 := ⟨_, x1.toInCall.ns⟩
  have keep1 : Sub s.heap h1' := x1.toInCall.keep
  have new : ¬ X L' := hL ▸ S.xd.new
  have new1 : s.heap.get? (L' + 1) = none := by
    cases q : s.heap.get? (L' + 1) with
    | none => rfl
    | some o => exact absurd (Heap.lt_size q) (by rw [hL]; exact Nat.not_lt.mpr (Nat.le_succ _))
  have newL : s.heap.get? L' = none := by
    cases q : s.heap.get? L' with
    | none => rfl
    | some o => exact absurd (Heap.lt_size q) (by rw [hL]; exact Nat.lt_irrefl _)
  have hY : ∀ b o, s.heap.get? b = some o → Xo (fun b => X b ∨ b = L') (fun _ => False) b → X b := fun b o e y => by
    rcases y with (y | y) | y
    · exact y
    · rw [y, newL] at e; cases e
    · exact y.elim
  have kin : K.In h1' := S.hb.k.keeps keep1
  have xk : ∀ b o, K.lookup b = some o → ¬ Xo (fun b => X b ∨ b = L') (fun _ => False) b := fun b o e y => S.xk b o e (hY b o (S.hb.k b o e) y)
  have nXc : ¬ Xo (fun b => X b ∨ b = L') (fun _ => False) (L' + 1) := fun y => by
    rcases y with (y | y) | y
    · obtain ⟨o, ho⟩ := S.xd _ y
      rw [new1] at ho; cases ho
    · exact absurd y (Nat.succ_ne_self L')
    · exact y
  have cell1 : h1'.IsCell (L' + 1) (some (.int x t)) := x1.cell (Str.ofString "code") (L' + 1) rfl
  have R : RS prog w K n n5 WL5 mg mb (fun b => X b ∨ b = L') (fun _ => False) [.cl (.int x)] (fun _ => 0) (callEnvC (fd5 pm cd doc) L' a) s.heap m1 h1' := by
    refine { cx := { st := ⟨S.hb, .inl (.inr rfl), fun b y => ?_, ⟨ns1, keep1, Nat.le_of_eq hL⟩, xk⟩, eg := rfl, eb := rfl, ek := rfl, loc := ?_, glo := ?_, fn := fun _ _ _ z => (nomatch z), blt := fun _ z => (nomatch z) }, ol := fun _ y => y.elim, yl := .inr rfl, inj := ?_, ow := ?_, kd := ?_, nj := ?_ }
    · rcases y with (y | y) | y
      · obtain ⟨o, ho⟩ := S.xd b y
        exact ⟨o, keep1 b o ho⟩
      · obtain ⟨o, _, _, ho, _⟩ := ns1
        exact ⟨o, y ▸ ho⟩
      · exact y.elim
    · intro i u z
      have : i = 0 ∧ u = .int x := by
        rcases frz_get.mp z with z | z
        · cases i with
          | zero => cases z
          | succ i => simp at z
        · cases i with
          | zero => cases z; exact ⟨rfl, rfl⟩
          | succ i => simp at z
      obtain ⟨rfl, rfl⟩ := this
      exact ⟨rfl, .inr ⟨rfl, L' + 1, _, rfl, nXc, cell1, ⟨t, rfl⟩⟩⟩
    · intro g u z
      have : (g = 2 ∨ g = 13) ∧ gl g = some u := by
        simp only [WL5] at z
        split at z
        · rename_i q; exact ⟨q, z⟩
        · cases z
      obtain ⟨q, z⟩ := this
      obtain ⟨val, g1, g2⟩ := hG g u z
      rcases q with rfl | rfl
      · exact ⟨rfl, rfl, val, g1, g2 _ _ kin xk⟩
      · exact ⟨rfl, rfl, val, g1, g2 _ _ kin xk⟩
    · intro i j u u' z
      cases i with
      | zero => cases z
      | succ i => simp at z
    · intro i u z
      cases i with
      | zero => cases z
      | succ i => simp at z
    · intro i u z hu
      cases i with
      | zero => cases z; exact hu.elim
      | succ i => simp at z
    · intro i j hi hj _
      simp at hi hj
      omega
  have ha' : AOK n (A.deeper (callEnvC (fd5 pm cd doc) L' a)) := ha.toAOK0.deeper rfl rfl rfl rfl
  have back : ∀ {h' : Heap} {m' : Str → Option Value} {val : Value} {v : V}, Fr s.heap L' h' m' → VR prog w (fun b => X b ∨ b = L') h' v val → Fr h₀ L h' m ∧ GL L s.heap h' ∧ VR prog w X h' v val := fun F' V' => leave_ok S F' V'
  have e1 : exs WL5 bd5 [.cl (.int x)] = some (if x = 253 then .rt (.bool true) else .nx [.cl (.int x)]) := by
    by_cases q : x = 253
    · subst q; rfl
    · have h0 : PyData.eqv (.int x) (.int 253) = false := by
        show decide (x = 253) = false
        exact decide_eq_false q
      simp [bd5, exs, ex, tv, ev, full, locV, WL5, gl, gVECTOR_PREFIX, cmpB, eqV, flat, toP, h0, q]
  refine exs_then bd5 [ret5] e1 ⟨⟨⟨trivial, trivial⟩, trivial⟩, trivial⟩ R ha' t1 (fun σ' eo O' α' m' h' tk q1 G' R' => ?_) (fun v eo val m' h' tk q1 F' V' => ?_)
  · have q : x ≠ 253 := fun q => by rw [if_pos q] at eo; cases eo
    rw [if_neg q] at eo
    cases eo
    rw [if_neg q] at k
    have hAny : wpAny (model prog w) (A.deeper (callEnvC (fd5 pm cd doc) L' a)) (eval (.Name (Str.ofString "any") (P 81 11 81 14)) (callEnvC (fd5 pm cd doc) L' a)) (fun f s' => f = .builtin "any" ∧ s' = { s with heap := h', toks := tk }) (fun _ _ => False) { s with heap := h', toks := tk } :=
      Name_function_global rfl rfl (loadGlobal_builtin (env := callEnvC (fd5 pm cd doc) L' a) R'.cx.st.hb.g hA.1 R'.cx.st.hb.b hA.2 ⟨rfl, rfl⟩) rfl
    refine wpAny_execs_cons (wpAny_Return_some (Call_ (wpAny_mono hAny (fun f s' hf => ?_) fun _ _ y => y) rfl))
    obtain ⟨rfl, rfl⟩ := hf
    show wpAny (model prog w) _ (callWith _ (.builtin "any") [] [(false, eval comp5 (callEnvC (fd5 pm cd doc) L' a))] []) _ _ _
    refine callWith_builtin rfl (evalArgs_plain (spliced_cons ?_))
    rw [comp5_eq, eval_ListComp]
    refine wpAny_comprehension_free (use := none) (cl := [(Str.ofString "code", L' + 1)]) rfl (fun _ => rfl) rfl rfl (by decide) ?_
    refine WP.t (s := { s with heap := h', toks := tk }) (glo_ok (i := 2) (p := P 81 57 81 68) (v := gLEFT_RANGES) R'.cx rfl) ha' q1 fun lv g1 t2 q2 F1 gl1 v1 => ?_
    have R1 := R'.gl F1 gl1
    obtain ⟨us, cu1, cu2, cu3⟩ := left_comp x [.tup [.int 42, .int 43], .tup [.int 56, .int 57], .tup [.int 67, .int 68], .tup [.int 91, .int 102], .tup [.int 139, .int 166], .tup [.int 168, .int 171], .tup [.int 174, .int 191], .tup [.int 64512, .int 64519]] [.un, .un, .cl (.int x)] _ ⟨.un, .un, rfl, .inl rfl, .inl rfl⟩ (fun u hu => by
      simp only [List.mem_cons, List.not_mem_nil, or_false] at hu
      rcases hu with h | h | h | h | h | h | h | h <;> exact ⟨_, _, h⟩) rfl
    have v1 : VR prog w (Xo (fun b => X b ∨ b = L') O') g1 (.lst [.tup [.int 42, .int 43], .tup [.int 56, .int 57], .tup [.int 67, .int 68], .tup [.int 91, .int 102], .tup [.int 139, .int 166], .tup [.int 168, .int 171], .tup [.int 174, .int 191], .tup [.int 64512, .int 64519]]) lv := v1
    obtain ⟨ax, xs, rfl, hX, ho, hv⟩ := v1
    have hax : ∃ o, g1.get? ax = some o := let ⟨nn, q⟩ := ho; ⟨_, q⟩
    have hlt : ax < g1.objs.size := by obtain ⟨o, q⟩ := hax; exact Heap.lt_size q
    have hne : ax ≠ g1.objs.size := Nat.ne_of_lt hlt
    refine wpAny_pyIter_list ho.l ?_
    have Wk := Walks.list (prog := prog) (w := w) (A := A.deeper (callEnvC (fd5 pm cd doc) L' a)) ha'.hd g1.objs.size ax hne (List.toArray xs)
    have KT := KTurns.ofWalks (target := tg5.py Nc5) Wk (fun i v s Q E st q => letGo_list st.1 q)
    rw [show (List.toArray xs).size = [V.tup [.int 42, .int 43], .tup [.int 56, .int 57], .tup [.int 67, .int 68], .tup [.int 91, .int 102], .tup [.int 139, .int 166], .tup [.int 168, .int 171], .tup [.int 174, .int 191], .tup [.int 64512, .int 64519]].length from by rw [List.size_toArray, hv.length]] at KT
    have cellg : ∃ val, g1.IsCell (L' + 1) (some val) ∧ ¬ Xo (fun b => X b ∨ b = L') O' (L' + 1) ∧ VR prog w (Xo (fun b => X b ∨ b = L') O') g1 (.int x) val := by
      obtain ⟨_, b⟩ := R1.cx.loc 0 (.int x) rfl
      rcases b with ⟨z, _⟩ | ⟨_, c, val, z1, z2, z3, z4⟩
      · cases z
      · have : some (L' + 1) = some c := z1
        cases this
        exact ⟨val, z3, z2, z4⟩
    obtain ⟨cval, cg1, cg2, cg3⟩ := cellg
    refine comp_ok (s := { s with heap := g1, toks := t2 }) (Nc := Nc5) (σc := [.un, .un, .cl (.int x)]) (elt := elt5) (t := tg5) (us := us) ha' KT (fun i s Q E st q => Wk.self i s Q E st q) (fun X h => VRs prog w X h _ xs) (fun X X' h h' a b c => a.mono b c) (fun i v h X u hP hk hi => ItR.of (hk.gets hi hP)) ?_ ?_ rfl rfl R1.cx.st (fun b o q => Heap.get?_push_of_some _ q) (by show g1.objs.size ≤ (Heap.push g1 _).objs.size; rw [Heap.size_push]; exact Nat.le_succ _) ?_ hv ?_ ?_ q2 cu1 (by decide) ?_
    · rintro i h ⟨⟨o, q, _⟩, _⟩ b hb
      rw [List.mem_singleton.mp hb]; exact ⟨o, q⟩
    · refine ⟨rfl, by decide, fun i u z => ?_, fun i z => ?_, fun i u z => ?_, fun i j hi hj z => ?_⟩
      · match i, z with
        | 0, z => cases z; exact .inl rfl
        | 1, z => cases z; exact .inl rfl
        | 2, z => cases z; exact .inr ⟨_, rfl⟩
        | k + 3, z => simp at z
      · match i, z with
        | 0, z => exact ⟨rfl, rfl⟩
        | 1, z => exact ⟨rfl, rfl⟩
        | 2, z => cases z
        | k + 3, z => simp at z
      · match i, z with
        | 0, z => cases z
        | 1, z => cases z
        | 2, z => cases z; exact ⟨rfl, rfl, L' + 1, cval, rfl, cg2, cg1, cg3⟩
        | k + 3, z => simp at z
      · have hi : i < 3 := hi
        have hj : j < 3 := hj
        match i, j, hi, hj, z with
        | 0, 0, _, _, _ => rfl
        | 1, 1, _, _, _ => rfl
        | 2, 2, _, _, _ => rfl
        | 0, 1, _, _, z => exact absurd z (show ¬ Str.ofString "least" = Str.ofString "most" by decide)
        | 0, 2, _, _, z => exact absurd z (show ¬ Str.ofString "least" = Str.ofString "code" by decide)
        | 1, 0, _, _, z => exact absurd z (show ¬ Str.ofString "most" = Str.ofString "least" by decide)
        | 1, 2, _, _, z => exact absurd z (show ¬ Str.ofString "most" = Str.ofString "code" by decide)
        | 2, 0, _, _, z => exact absurd z (show ¬ Str.ofString "code" = Str.ofString "least" by decide)
        | 2, 1, _, _, z => exact absurd z (show ¬ Str.ofString "code" = Str.ofString "most" by decide)
    · exact ⟨⟨_, Heap.get?_push_size _ rfl, rfl, rfl⟩, ho.l.push _⟩
    · intro b hb; rw [List.mem_singleton.mp hb]; exact get?_size
    · intro b hb
      rcases List.mem_cons.mp hb with rfl | hb
      · exact .inl (List.mem_singleton.mpr rfl)
      · rw [List.mem_singleton.mp hb]
        exact .inr hax
    · intro D C g2 tk3 m3 q3 sub3 d0 c0 hCD ns3 vr3
      refine ⟨m3, ns3, fun g3 sb => spliced_nil ?_⟩
      have s13 : Sub g1 g3 := fun b o q => (sb.2 b (fun z => by rw [z, c0] at q; cases q)).trans (sub3 b o q)
      have S3 : St prog K mg mb (Xo (fun b => X b ∨ b = L') O') s.heap L' _ g3 := R1.cx.st.gl (L := L') ⟨R1.fr.ns.keeps s13, fun b o q => s13 b o (R1.fr.keep b o q), R1.fr.above⟩ (GL.of_sub s13)
      have V3 : VR prog w (Xo (fun b => X b ∨ b = L') O') g3 (.lst us) (.ref D) := vr3.mono (fun b o hb q => (sb.2 b fun z => hb (.inr z)).trans q) fun _ _ _ y => .inl y
      refine WP.t (s := { s with heap := g3, toks := tk3 }) (any_ok S3 V3 cu2) ha' q3 fun val g4 t4 q4 F4 gl4 v4 => ?_
      rw [cu3] at v4
      obtain ⟨a1, a2, a3⟩ := back (v := .bool _) F4 (show VR prog w (fun b => X b ∨ b = L') g4 (.bool _) val from v4)
      exact k val g4 t4 q4 a1 a2 a3
  · have q : x = 253 := by
      by_cases q : x = 253
      · exact q
      · rw [if_neg q] at eo; cases eo
    rw [if_pos q] at eo k
    cases eo
    obtain ⟨a1, a2, a3⟩ := back F' V'
    exact k val h' tk q1 a1 a2 a3
end
end Mine

namespace Mine
noncomputable abbrev fd20 (pm cd doc : Value) : FuncData := Calls.docDef (Str.ofString "law") ar20 body20 sc20 pm cd doc
noncomputable def WC (n : Nat) : Wd := ⟨fun _ => none, fun i xs => if [6, 8, 10, 12, 16, 18, 19].contains i then (WL n).f i xs else none, fun i => decide (i < 2)⟩
noncomputable def Nc20 : Nm := ⟨fun i => match i with
  | 0 => Str.ofString "code"
  | _ => Str.ofString "names", gNm, fNm⟩
noncomputable def elt20 : E := .sub (.loc 1 (P 267 13 267 18)) (.loc 0 (P 267 19 267 23)) (P 267 13 267 24)
noncomputable def tg20 : Tg := .nm 0 (P 267 29 267 33)
theorem comp20_eq : comp20 = .ListComp (elt20.py Nc20) [⟨tg20.py Nc20, nmE "names" (P 267 37 267 42), [], 0⟩] sc20c (P 267 12 267 43) := rfl
theorem ls20_inj {i j : Nat} (hi : i < 12) (hj : j < 12) (e : n20.l i = n20.l j) : i = j := by
  have nd : ls20.Nodup := by decide
  have li : i < ls20.length := hi
  have lj : j < ls20.length := hj
  have e1 : n20.l i = ls20[i] := getD_lt li
  have e2 : n20.l j = ls20[j] := getD_lt lj
  rw [e1, e2] at e
  exact nodup_get nd li lj e
section
variable {prog : Program} {w : World} {K : Frag} {n : Nat} {mg mb : Str → Option Value}
theorem env20_loc {pm cd doc : Value} {L a : Addr} {i : Nat} (hi : i < 12) (h3 : i ≠ 3) : (n20.l i == ("__debug__" : Str)) = false ∧ (callEnvC (fd20 pm cd doc) L a).kindOf (n20.l i) = some .local := by
  match i, hi, h3 with
  | 0, _, _ => exact ⟨rfl, rfl⟩
  | 1, _, _ => exact ⟨rfl, rfl⟩
  | 2, _, _ => exact ⟨rfl, rfl⟩
  | 4, _, _ => exact ⟨rfl, rfl⟩
  | 5, _, _ => exact ⟨rfl, rfl⟩
  | 6, _, _ => exact ⟨rfl, rfl⟩
  | 7, _, _ => exact ⟨rfl, rfl⟩
  | 8, _, _ => exact ⟨rfl, rfl⟩
  | 9, _, _ => exact ⟨rfl, rfl⟩
  | 10, _, _ => exact ⟨rfl, rfl⟩
  | 11, _, _ => exact ⟨rfl, rfl⟩
/-- law's own frame, after its names stand: codes, words, the loop -/
theorem law_tail {Y O : Ex} {pm cd doc : Value} {L a : Addr} {α : Nat → Addr} {h₀ : Heap} {m : Str → Option Value} {s : Shared} {vs vt vb vc : V} {kn : List Int} {vn ws : List V} {v : V} {A : Around} {Q : Flow → Shared → Prop} {E : Value → Shared → Prop}
    (R : RS prog w K n n20 (WC n) mg mb Y O [.fr vs, .fr vt, .fr vb, .cl (.dI kn vn), .un, .un, .un, .un, .un, .un, .un, .un] α (callEnvC (fd20 pm cd doc) L a) h₀ m s.heap) (ha : AOK n A) (ht : 1 ≤ s.toks) (hkn : kn.length ≤ big)
    (e2 : exs (WC n) bd20b [.fr vs, .fr vt, .fr vb, .cl (.dI kn vn), .un, .un, .un, .un, .un, .un, .un, .un] = some (.nx [.fr vs, .fr vt, .fr vb, .cl (.dI kn vn), .fr vc, .un, .un, .un, .un, .un, .un, .un]))
    (e3 : compV tg20 elt20 (kn.map .int) [.un, .cl (.dI kn vn)] = some ws)
    (e4 : exs (WC n) bd20c [.fr vs, .fr vt, .fr vb, .cl (.dI kn vn), .fr vc, .un, .fr (.lst ws), .un, .un, .un, .un, .un] = some (.rt v))
    (k : ∀ val m' h' tk, 1 ≤ tk → Fr h₀ L h' m' → VR prog w Y h' v val → Q (.ret val) { s with heap := h', toks := tk }) :
    wpAny (model prog w) A (execs (bd20b.py n20 ++ ([words20] ++ bd20c.py n20)) (callEnvC (fd20 pm cd doc) L a)) Q E s := by
  refine exs_then bd20b _ e2 (by repeat' (first | exact trivial | exact rfl | decide | refine And.intro ?_ ?_)) R ha ht (fun σ' eo O1 α1 m1 h1 t1 q1 G1 R1 => ?_) (fun v eo => by cases eo)
  cases eo
  show wpAny (model prog w) A (execs (words20 :: bd20c.py n20) (callEnvC (fd20 pm cd doc) L a)) Q E _
  refine wpAny_execs_cons ?_
  show wpAny (model prog w) A (exec (.Assign [.Name (Str.ofString "words") (P 267 4 267 9)] comp20 (P 267 4 267 43)) (callEnvC (fd20 pm cd doc) L a)) _ E _
  rw [exec_Assign_Name_used _ _ _ _ rfl]
  refine wpAny_bind (wpAny_standAt (wpAny_bind ?_))
  show wpAny (model prog w) A (do let _ ← comprehension comp20 sc20c (callEnvC (fd20 pm cd doc) L a) _ (newList []) false (eval (nmE "names" (P 267 37 267 42)) (callEnvC (fd20 pm cd doc) L a)) (some (assign (.Name (Str.ofString "words") (P 267 4 267 9)) (callEnvC (fd20 pm cd doc) L a)))) _ _ _
  have hfin : ∀ h' tk m' O' α', 1 ≤ tk → RS prog w K n n20 (WC n) mg mb Y O' [.fr vs, .fr vt, .fr vb, .cl (.dI kn vn), .fr vc, .un, .fr (.lst ws), .un, .un, .un, .un, .un] α' (callEnvC (fd20 pm cd doc) L a) h₀ m' h' →
      wpAny (model prog w) A (execs (bd20c.py n20) (callEnvC (fd20 pm cd doc) L a)) Q E { s with heap := h', toks := tk } := fun h' tk m' O' α' q R' => by
    refine exs_ok (s := { s with heap := h', toks := tk }) bd20c e4 (by repeat' (first | exact trivial | exact rfl | decide | refine And.intro ?_ ?_)) R' ha q fun fl h2 t2 q2 o2 => ?_
    obtain ⟨val, m2, rfl, F2, V2⟩ := o2
    exact k val m2 h2 t2 q2 F2 V2
  refine wpAny_bind (wpAny_mono (Q := fun _ s' => wpAny (model prog w) A (execs (bd20c.py n20) (callEnvC (fd20 pm cd doc) L a)) Q E s') ?_ (fun _ s' hq => wpAny_pure (wpAny_pure hq)) fun _ _ y => y)
  rw [comp20_eq]
  have lk : (callEnvC (fd20 pm cd doc) L a).cells = [(Str.ofString "names", L + 1)] := rfl
  refine wpAny_comprehension_free (cl := [(Str.ofString "names", L + 1)]) rfl (fun _ => rfl) rfl rfl (by decide) ?_
  refine WP.t (s := { s with heap := h1, toks := t1 }) (loc_ok (i := 3) (p := P 267 37 267 42) (v := .dI kn vn) R1.cx rfl) ha q1 fun lv g1 t2 q2 F1 gl1 v1 => ?_
  have R2 := R1.gl F1 gl1
  obtain ⟨ax, xs, rfl, hX, ho, hlen, hm, hv⟩ := id v1
  obtain ⟨ep, hat⟩ := ho.dictAt
  have hlt := hat.lt_size
  have hax : ∃ o, g1.get? ax = some o := let ⟨o, es, q, _⟩ := hat; ⟨_, q⟩
  have hne : ax ≠ g1.objs.size := Nat.ne_of_lt hlt
  refine wpAny_pyIter_dict hm hat ?_
  have Wk := Walks.dictKeys (knd := PySem.intKind prog w) (A := A) ha.hd g1.objs.size ax hne (kn.zip xs) ep
  have KT := KTurns.ofWalks (target := tg20.py Nc20) Wk (fun i v s Q E st q => wpAny_pure q)
  have hz : (kn.zip xs).length = (kn.map V.int).length := by simp; omega
  have cellg : ∃ val, g1.IsCell (L + 1) (some val) ∧ ¬ Xo Y O1 (L + 1) ∧ VR prog w (Xo Y O1) g1 (.dI kn vn) val := by
    obtain ⟨_, b⟩ := R2.cx.loc 3 (.dI kn vn) rfl
    rcases b with ⟨z, _⟩ | ⟨_, c, val, z1, z2, z3, z4⟩
    · cases z
    · have : some (L + 1) = some c := z1
      cases this
      exact ⟨val, z3, z2, z4⟩
  obtain ⟨cval, cg1, cg2, cg3⟩ := cellg
  have self := Wk.self
  rw [hz] at KT self
  refine comp_ok (s := { s with heap := g1, toks := t2 }) (Nc := Nc20) (σc := [.un, .cl (.dI kn vn)]) (elt := elt20) (t := tg20) (us := ws) ha KT (fun i s Q E st q => self i s Q E st q) (fun _ _ => True) (fun X X' h h' a b c => trivial) (fun i v h X u hP hk hi => ItR.of ?_) ?_ ?_ rfl rfl R2.cx.st (fun b o q => Heap.get?_push_of_some _ q) (by show g1.objs.size ≤ (Heap.push g1 _).objs.size; rw [Heap.size_push]; exact Nat.le_succ _) ?_ trivial ?_ ?_ q2 e3 (by simpa using hkn) ?_
  · obtain ⟨k, x, e1, e2⟩ := hP
    obtain ⟨tt, rfl⟩ := Value.isInt_shape e2
    rw [List.getElem?_map] at hi
    have := List.getElem?_zip_eq_some.mp e1
    rw [this.1] at hi
    cases hi
    exact ⟨tt, rfl⟩
  · rintro i h ⟨⟨o, q, _⟩, _⟩ b hb
    rw [List.mem_singleton.mp hb]; exact ⟨o, q⟩
  · refine ⟨rfl, by decide, fun i u z => ?_, fun i z => ?_, fun i u z => ?_, fun i j hi hj z => ?_⟩
    · match i, z with
      | 0, z => cases z; exact .inl rfl
      | 1, z => cases z; exact .inr ⟨_, rfl⟩
      | k + 2, z => simp at z
    · match i, z with
      | 0, z => exact ⟨rfl, rfl⟩
      | 1, z => cases z
      | k + 2, z => simp at z
    · match i, z with
      | 0, z => cases z
      | 1, z => cases z; exact ⟨rfl, rfl, L + 1, cval, rfl, cg2, cg1, cg3⟩
      | k + 2, z => simp at z
    · have hi : i < 2 := hi
      have hj : j < 2 := hj
      match i, j, hi, hj, z with
      | 0, 0, _, _, _ => rfl
      | 1, 1, _, _, _ => rfl
      | 0, 1, _, _, z => exact absurd z (show ¬ Str.ofString "code" = Str.ofString "names" by decide)
      | 1, 0, _, _, z => exact absurd z (show ¬ Str.ofString "names" = Str.ofString "code" by decide)
  · rw [← hz]
    exact ⟨⟨_, Heap.get?_push_size _ rfl, rfl, rfl⟩, hat.push _⟩
  · intro b hb; rw [List.mem_singleton.mp hb]; exact get?_size
  · intro b hb
    rcases List.mem_cons.mp hb with rfl | hb
    · exact .inl (List.mem_singleton.mpr rfl)
    · rw [List.mem_singleton.mp hb]
      exact .inr hax
  · intro D C g2 tk3 m3 q3 sub3 d0 c0 hCD ns3 vr3
    have hCL : C ≠ L := fun z => by
      obtain ⟨o, ho⟩ := Fr.at R2.fr
      have : g1.get? C = some o := z ▸ ho
      rw [c0] at this; cases this
    have Cn : ∀ a, Xo Y O1 a → a ≠ C := fun a y z => by
      obtain ⟨o, ho⟩ := R2.cx.st.xd a y
      rw [z, show g1.get? C = none from c0] at ho; cases ho
    have F2' : Fr h₀ L g2 m1 := ⟨R2.fr.ns.keeps sub3, fun b o q => sub3 b o (R2.fr.keep b o q), R2.fr.above⟩
    have R3 : RS prog w K n n20 (WC n) mg mb (fun b => Y b ∨ b = C) O1 [.fr vs, .fr vt, .fr vb, .cl (.dI kn vn), .fr vc, .un, .un, .un, .un, .un, .un, .un] α1 (callEnvC (fd20 pm cd doc) L a) h₀ m1 g2 := by
      refine R2.move (fun b o _ _ q => sub3 b o q) (fun a o q y => ?_) (.inl R2.yl) (fun a y => ?_) (fun a y z => ?_) F2'
      · rcases y with (y | y) | y
        · exact .inl y
        · rw [y, show g1.get? C = none from c0] at q; cases q
        · exact .inr y
      · rcases y with (y | y) | y
        · obtain ⟨o, ho⟩ := R2.cx.st.xd a (.inl y); exact ⟨o, sub3 a o ho⟩
        · obtain ⟨o, _, _, ho, _⟩ := ns3
          exact ⟨o, y ▸ ho⟩
        · obtain ⟨o, ho⟩ := R2.cx.st.xd a (.inr y); exact ⟨o, sub3 a o ho⟩
      · rcases z with z | z
        · exact (R2.ol a y).1 z
        · exact Cn a (.inr y) z
    have V3 : VR prog w (Xo (fun b => Y b ∨ b = C) O1) g2 (.lst ws) (.ref D) := vr3.mono (fun _ _ _ q => q) fun a o _ y => by
      rcases y with (y | y) | y
      · exact .inl (.inl y)
      · exact .inr y
      · exact .inl (.inr y)
    show wpAny (model prog w) A (assign (.Name (n20.l 6) (P 267 4 267 9)) (callEnvC (fd20 pm cd doc) L a) (.ref D)) (fun _ s'' => ∃ m, s''.heap.Ns C m ∧ ∀ h', Heap.SameBut C s''.heap h' → wpAny (model prog w) A (execs (bd20c.py n20) (callEnvC (fd20 pm cd doc) L a)) Q E { s'' with heap := h' }) E { s with heap := g2, toks := tk3 }
    refine wpAny_assign_Name (store_ok (i := 6) (s := { s with heap := g2, toks := tk3 }) R3 (show storeF _ 6 (.lst ws) = some _ from rfl) V3 fun h4 m4 R4 gl4 => ?_)
    refine ⟨m3, Heap.Ns.at' ns3 fun o q => gl4 C o hCL q, fun h5 sb => ?_⟩
    have hk5 : ∀ b o, b ≠ C → h4.get? b = some o → h5.get? b = some o := fun b o hb q => (sb.2 b hb).trans q
    have R5 : RS prog w K n n20 (WC n) mg mb Y O1 [.fr vs, .fr vt, .fr vb, .cl (.dI kn vn), .fr vc, .un, .fr (.lst ws), .un, .un, .un, .un, .un] α1 (callEnvC (fd20 pm cd doc) L a) h₀ m4 h5 := by
      refine R4.move (fun b o hb _ q => hk5 b o (fun z => hb (.inr z)) q) (fun a o _ y => y.elim (fun y => .inl (.inl y)) .inr) R2.yl (fun a y => ?_) (fun a y => (R2.ol a y).1) ⟨?_, fun b o q => ?_, R4.fr.above⟩
      · obtain ⟨o, ho⟩ := R4.cx.st.xd a (y.elim (fun y => .inl (.inl y)) .inr)
        exact ⟨o, hk5 a o (Cn a y) ho⟩
      · exact Heap.Ns.at' R4.fr.ns fun o q => hk5 _ o (Ne.symm hCL) q
      · refine hk5 b o (fun z => ?_) (R4.fr.keep b o q)
        have := R2.fr.keep b o q
        rw [z, show g1.get? C = none from c0] at this; cases this
    exact hfin h5 (tk3 + 1) m4 O1 α1 (by omega) R5
end
end Mine

namespace Mine
section
variable {prog : Program} {w : World} {K : Frag} {n : Nat} {mg mb : Str → Option Value}
theorem law_call {s : Shared} {A : Around} {Q E : Value → Shared → Prop} {sa : Value} {l : List V} {vt vb vc : V} {kn : List Int} {vn ws : List V} {v : V} (B : HB prog K mg mb s.heap) (hW : WdOK prog w K n gNm fNm (WL n) mg mb) {a : Addr} {o : Obj} {pm cd doc : Value} (h2 : K.lookup a = some o) (h3 : o.data = .func (fd20 pm cd doc)) (h4 : ∀ h : Heap, K.In h → h.CodeRec cd (Str.ofString "law"))
    (ha : AOK0 (n + 1) A) (ht : 1 ≤ s.toks) (hkn : kn.length ≤ big) (hv : VR prog w (fun _ => False) s.heap (.lst l) sa)
    (e1 : exs (WC n) bd20a [.fr (.lst l), .un, .un] = some (.nx [.fr (.lst l), .fr vt, .fr vb]))
    (e5 : ev (WC n) [some (.lst l), some vt, some vb] e20 = some (.dI kn vn))
    (e2 : exs (WC n) bd20b [.fr (.lst l), .fr vt, .fr vb, .cl (.dI kn vn), .un, .un, .un, .un, .un, .un, .un, .un] = some (.nx [.fr (.lst l), .fr vt, .fr vb, .cl (.dI kn vn), .fr vc, .un, .un, .un, .un, .un, .un, .un]))
    (e3 : compV tg20 elt20 (kn.map .int) [.un, .cl (.dI kn vn)] = some ws)
    (e4 : exs (WC n) bd20c [.fr (.lst l), .fr vt, .fr vb, .cl (.dI kn vn), .fr vc, .un, .fr (.lst ws), .un, .un, .un, .un, .un] = some (.rt v))
    (k : ∀ val h' tk, 1 ≤ tk → Sub s.heap h' → VR prog w (fun _ => False) h' v val → Q val { s with heap := h', toks := tk }) : wpAny (model prog w) A (call (.ref a) [sa]) Q E s := by
  refine call_cells_t (binds := [(Str.ofString "script", sa)]) ha.room (B.k a o h2) h3 B.lim (h4 _ B.k) rfl rfl rfl ht (fun y hy => ?_) (fun s₁ t1 x1 => ?_) rfl rfl rfl
  · rw [List.mem_singleton.mp hy]
    exact .inl rfl
  generalize hL : s.heap.objs.size = L' at x1 ⊢
  obtain ⟨h1', tk1, hs1⟩ := x1.toInCall.same
  subst hs1
  have t1 : 1 ≤ tk1 := t1
  have keep1 : Sub s.heap h1' := x1.toInCall.keep
  obtain ⟨m1, ns1, hm1⟩ : ∃ m1, h1'.Ns L' m1 ∧ m1 (Str.ofString "script") = some sa := ⟨_, x1.toInCall.ns, rfl⟩
  have fresh : ∀ b, L' ≤ b → s.heap.get? b = none := fun b hb => by
    cases q : s.heap.get? b with
    | none => rfl
    | some o => exact absurd (Heap.lt_size q) (by rw [hL]; exact Nat.not_lt.mpr hb)
  have cell1 : h1'.IsCell (L' + 1) none := x1.cell (Str.ofString "names") (L' + 1) rfl
  have ne1 : L' + 1 ≠ L' := Nat.succ_ne_self L'
  let Y1 : Ex := fun b => b = L' ∨ b = L' + 1
  have f1 : ∀ b o, s.heap.get? b = some o → ¬ Y1 b := fun b o e y => by
    rcases y with y | y
    · rw [y, fresh L' (Nat.le_refl _)] at e; cases e
    · rw [y, fresh (L' + 1) (Nat.le_succ _)] at e; cases e
  have xk : ∀ b o, K.lookup b = some o → ¬ Xo Y1 (fun _ => False) b := fun b o e y => y.elim (f1 b o (B.k b o e)) id
  have kin : K.In h1' := B.k.keeps keep1
  have R : RS prog w K n n20 (WC n) mg mb Y1 (fun _ => False) [.fr (.lst l), .un, .un] (fun _ => 0) (callEnvC (fd20 pm cd doc) L' a) s.heap m1 h1' := by
    refine { cx := { st := ⟨B, .inl (.inl rfl), fun b y => ?_, ⟨ns1, keep1, Nat.le_of_eq hL⟩, xk⟩, eg := rfl, eb := rfl, ek := rfl, loc := ?_, glo := fun _ _ z => (nomatch z), fn := ?_, blt := ?_ }, ol := fun _ y => y.elim, yl := .inl rfl, inj := ?_, ow := ?_, kd := ?_, nj := ?_ }
    · rcases y with (y | y) | y
      · obtain ⟨o, _, _, ho, _⟩ := ns1
        exact ⟨o, y ▸ ho⟩
      · obtain ⟨o, ho, _⟩ := cell1
        exact ⟨o, y ▸ ho⟩
      · exact y.elim
    · intro i u z
      have : i = 0 ∧ u = .lst l := by
        rcases frz_get.mp z with z | z
        · match i, z with
          | 0, z => cases z; exact ⟨rfl, rfl⟩
          | 1, z => cases z
          | 2, z => cases z
          | k + 3, z => simp at z
        · match i, z with
          | 0, z => cases z
          | 1, z => cases z
          | 2, z => cases z
          | k + 3, z => simp at z
      obtain ⟨rfl, rfl⟩ := this
      exact ⟨rfl, .inl ⟨rfl, sa, hm1, hv.mono (fun b o _ q => keep1 b o q) fun b o q y => y.elim (f1 b o q) id⟩⟩
    · intro f xs v z
      have : (f = 6 ∨ f = 8 ∨ f = 10 ∨ f = 12 ∨ f = 16 ∨ f = 18 ∨ f = 19) ∧ (WL n).f f xs = some v := by
        simp only [WC] at z
        split at z
        · rename_i q
          simp at q
          exact ⟨q, z⟩
        · cases z
      obtain ⟨q, z⟩ := this
      have c := hW.f f xs v z
      rcases q with rfl | rfl | rfl | rfl | rfl | rfl | rfl <;> exact ⟨rfl, rfl, c⟩
    · intro b z
      have hb : b < 2 := by simpa [WC] using z
      have hb4 : (WL n).b b = true := by
        cases n <;> (simp [WL]; omega)
      have c := hW.b b hb4
      match b, hb, c with
      | 0, _, c => exact ⟨rfl, rfl, c⟩
      | 1, _, c => exact ⟨rfl, rfl, c⟩
    · intro i j u u' z
      match i, z with
      | 0, z => cases z
      | 1, z => cases z
      | 2, z => cases z
      | k + 3, z => simp at z
    · intro i u z
      match i, z with
      | 0, z => cases z
      | 1, z => cases z
      | 2, z => cases z
      | k + 3, z => simp at z
    · intro i u z _
      have hi : i < 3 := RS.lt z
      exact env20_loc (by omega) (by omega)
    · intro i j hi hj z
      have hi : i < 3 := hi
      have hj : j < 3 := hj
      exact ls20_inj (by omega) (by omega) z
  have ha' : AOK n (A.deeper (callEnvC (fd20 pm cd doc) L' a)) := ha.deeper rfl rfl rfl rfl
  show wpAny (model prog w) _ (execs (bd20a.py n20 ++ [names20] ++ bd20b.py n20 ++ [words20] ++ bd20c.py n20) _) _ _ _
  rw [List.append_assoc, List.append_assoc, List.append_assoc]
  refine exs_then bd20a _ e1 (by repeat' (first | exact trivial | exact rfl | decide | refine And.intro ?_ ?_)) R ha' t1 (fun σ' eo O1 α1 m2 g1 t2 q2 G1 R1 => ?_) (fun v eo => by cases eo)
  cases eo
  show wpAny (model prog w) _ (execs (names20 :: (bd20b.py n20 ++ ([words20] ++ bd20c.py n20))) _) _ _ _
  refine wpAny_execs_cons (wpAny_Assign_Name ?_ (sw_expr e20))
  refine ev_ok (s := { s with heap := g1, toks := t2 }) e20 e5 R1.cx ha' q2 fun nv g2 t3 q3 F3 gl3 v3 => ?_
  have R2 := R1.gl F3 gl3
  obtain ⟨oc, hoc, hdc⟩ := cell1
  have cell2 : g2.IsCell (L' + 1) none := ⟨oc, gl3 _ oc ne1 (G1.keep _ oc hoc ne1 fun y => y), hdc⟩
  refine wpAny_storeName_cell rfl rfl rfl cell2 fun h3' hcell sb => ?_
  have hk : ∀ b o, ¬ Xo Y1 O1 b → g2.get? b = some o → h3'.get? b = some o := fun b o hb q => (sb.2 b fun z => hb (.inl (.inr z))).trans q
  have hO : ∀ b, O1 b → b ≠ L' + 1 := fun b y z => (R2.ol b y).1 (.inr z)
  have F4 : Fr s.heap L' h3' m2 := ⟨Heap.Ns.at' R2.fr.ns fun o q => (sb.2 _ (Ne.symm ne1)).trans q, fun b o q => (sb.2 b fun z => by rw [z, fresh (L' + 1) (Nat.le_succ _)] at q; cases q).trans (R2.fr.keep b o q), R2.fr.above⟩
  have hY : ∀ b o, g2.get? b = some o → Xo (fun b => b = L') O1 b → Xo Y1 O1 b := fun b o _ y => y.elim (fun y => .inl (.inl y)) .inr
  have xd : XD (Xo (fun b => b = L') O1) h3' := fun b y => by
    obtain ⟨o, ho⟩ := R2.cx.st.xd b (y.elim (fun y => .inl (.inl y)) .inr)
    refine ⟨o, (sb.2 b fun z => ?_).trans ho⟩
    rcases y with y | y
    · exact ne1 (z.symm.trans y)
    · exact hO b y z
  have C2 := R2.cx.keepX (X' := Xo (fun b => b = L') O1) hk hY (.inl rfl) xd F4
  have nY : ¬ Xo (fun b => b = L') O1 (L' + 1) := fun y => y.elim ne1 fun y => hO _ y rfl
  have R3 : RS prog w K n n20 (WC n) mg mb (fun b => b = L') O1 [.fr (.lst l), .fr vt, .fr vb, .cl (.dI kn vn), .un, .un, .un, .un, .un, .un, .un, .un] α1 (callEnvC (fd20 pm cd doc) L' a) s.heap m2 h3' := by
    refine { cx := { st := C2.st, eg := rfl, eb := rfl, ek := rfl, loc := ?_, glo := fun _ _ z => (nomatch z), fn := C2.fn, blt := C2.blt }, ol := fun b y => ⟨fun z => (R2.ol b y).1 (.inl z), (R2.ol b y).2⟩, yl := rfl, inj := ?_, ow := ?_, kd := ?_, nj := ?_ }
    · intro i u z
      by_cases q3 : i = 3
      · subst q3
        have : u = .dI kn vn := by
          rcases frz_get.mp z with z | z
          · cases z
          · cases z; rfl
        subst this
        exact ⟨rfl, .inr ⟨rfl, L' + 1, nv, rfl, nY, hcell, v3.mono hk hY⟩⟩
      · refine C2.loc i u ?_
        match i, q3, z with
        | 0, _, z => exact z
        | 1, _, z => exact z
        | 2, _, z => exact z
        | 3, q, _ => exact absurd rfl q
        | 4, _, z => cases z
        | 5, _, z => cases z
        | 6, _, z => cases z
        | 7, _, z => cases z
        | 8, _, z => cases z
        | 9, _, z => cases z
        | 10, _, z => cases z
        | 11, _, z => cases z
        | k + 12, _, z => simp [locV, frz] at z
    · intro i j u u' z
      match i, z with
      | 0, z => cases z
      | 1, z => cases z
      | 2, z => cases z
      | 3, z => cases z
      | 4, z => cases z
      | 5, z => cases z
      | 6, z => cases z
      | 7, z => cases z
      | 8, z => cases z
      | 9, z => cases z
      | 10, z => cases z
      | 11, z => cases z
      | k + 12, z => simp at z
    · intro i u z
      match i, z with
      | 0, z => cases z
      | 1, z => cases z
      | 2, z => cases z
      | 3, z => cases z
      | 4, z => cases z
      | 5, z => cases z
      | 6, z => cases z
      | 7, z => cases z
      | 8, z => cases z
      | 9, z => cases z
      | 10, z => cases z
      | 11, z => cases z
      | k + 12, z => simp at z
    · intro i u z hu
      have hi : i < 12 := RS.lt z
      refine env20_loc hi fun q => ?_
      subst q
      cases z
      exact hu.elim
    · intro i j hi hj z
      exact ls20_inj hi hj z
  refine law_tail (s := { s with heap := h3', toks := t3 }) R3 ha' q3 hkn e2 e3 e4 fun val m' h' tk q F' V' => ?_
  exact k val h' tk q F'.keep (V'.mono (fun _ _ _ q => q) fun _ _ _ y => y.elim)
end
end Mine

namespace Mine
noncomputable abbrev rw0 : OpenRow := PySem.Challenge.rw_nm0118_01.row
noncomputable def XPg (mg : Str → Option Value) (h : Heap) : Prop := ∀ i v, gl i = some v → ∃ x, mg (gNm i) = some x ∧ ∀ (prog : Program) (w : World), VR prog w (fun _ => False) h v x
theorem xpg_of (s : Shared) (e : Xt s = true) : XPg (s.heap.nsMap mainGlobals) s.heap := by
  intro i v hv
  have hi : i < 16 := by
    rcases Nat.lt_or_ge i 16 with h | h
    · exact h
    · exfalso
      obtain ⟨j, rfl⟩ : ∃ j, i = j + 16 := ⟨i - 16, by omega⟩
      cases hv
  have := List.all_eq_true.mp e i (List.mem_range.mpr hi)
  rw [hv] at this
  simp only at this
  split at this
  · rename_i x hx
    exact ⟨x, hx, fun prog w => rdV_ok this⟩
  · cases this
theorem xpg_keeps : ∀ (mg : Str → Option Value) (h h' : Heap), XPg mg h → (∀ b o, h.get? b = some o → h'.get? b = some o) → XPg mg h' := fun mg h h' x hk i v hv => by
  obtain ⟨y, h1, h2⟩ := x i v hv
  exact ⟨y, h1, fun prog w => (h2 prog w).keeps hk⟩
theorem mem_lookup {α β : Type} [BEq α] [LawfulBEq α] : ∀ {l : List (α × β)} {k : α} {v : β}, l.lookup k = some v → (k, v) ∈ l
  | (a, b) :: l, k, v, e => by
    rw [List.lookup] at e
    split at e
    · rename_i q
      cases e
      have := beq_iff_eq.mp q
      subst this
      exact List.mem_cons_self ..
    · exact List.mem_cons_of_mem _ (mem_lookup e)
noncomputable def fragOf (h : Heap) : Frag := (List.range h.objs.size).filterMap fun a => (h.get? a).map fun o => (a, o)
theorem fragOf_mem {h : Heap} {a : Addr} {o : Obj} (e : (fragOf h).lookup a = some o) : h.get? a = some o := by
  have hm : (a, o) ∈ fragOf h := mem_lookup e
  obtain ⟨b, _, q⟩ := List.mem_filterMap.mp hm
  obtain ⟨o', q1, q2⟩ := Option.map_eq_some_iff.mp q
  cases q2
  exact q1
theorem lookup_some {α β : Type} [BEq α] [LawfulBEq α] : ∀ {l : List (α × β)} {k : α} {v : β}, (k, v) ∈ l → ∃ v', l.lookup k = some v'
  | (a, b) :: l, k, v, h => by
    by_cases q : k = a
    · subst q; exact ⟨b, by simp [List.lookup]⟩
    · have : (k == a) = false := by simpa using q
      rcases List.mem_cons.mp h with z | z
      · cases z; exact absurd rfl q
      · obtain ⟨v', hv⟩ := lookup_some z
        exact ⟨v', by rw [List.lookup, this]; exact hv⟩
theorem fragOf_look {h : Heap} {a : Addr} {o : Obj} (e : h.get? a = some o) : (fragOf h).lookup a = some o := by
  have hm : (a, o) ∈ fragOf h := List.mem_filterMap.mpr ⟨a, List.mem_range.mpr (Heap.lt_size e), by rw [e]; rfl⟩
  obtain ⟨v', hv⟩ := lookup_some hm
  have := fragOf_mem hv
  rw [e] at this
  cases this
  exact hv
theorem ints_vr {prog : Program} {w : World} {h : Heap} : ∀ {vs : List Value} {ns : List Int}, IntsAre vs ns → VRs prog w (fun _ => False) h (ns.map .int) vs
  | [], [], _ => rfl
  | v :: vs, n :: ns, x => by
    cases x with
    | cons n t hr => exact ⟨_, _, rfl, ⟨_, rfl⟩, ints_vr hr⟩
  | [], _ :: _, x => by cases x
  | _ :: _, [], x => by cases x
/-- the evaluator's word for a script -/
noncomputable def PlainOk (l : List V) : Prop := ∃ (vt vb vc : V) (kn : List Int) (vn ws : List V), kn.length ≤ big ∧ exs (WC 4) bd20a [.fr (.lst l), .un, .un] = some (.nx [.fr (.lst l), .fr vt, .fr vb]) ∧
    ev (WC 4) [some (.lst l), some vt, some vb] e20 = some (.dI kn vn) ∧
    exs (WC 4) bd20b [.fr (.lst l), .fr vt, .fr vb, .cl (.dI kn vn), .un, .un, .un, .un, .un, .un, .un, .un] = some (.nx [.fr (.lst l), .fr vt, .fr vb, .cl (.dI kn vn), .fr vc, .un, .un, .un, .un, .un, .un, .un]) ∧
    compV tg20 elt20 (kn.map .int) [.un, .cl (.dI kn vn)] = some ws ∧
    exs (WC 4) bd20c [.fr (.lst l), .fr vt, .fr vb, .cl (.dI kn vn), .fr vc, .un, .fr (.lst ws), .un, .un, .un, .un, .un] = some (.rt (.bool true))
theorem free_names {mg mb : Str → Option Value} {mean : ExcName → Option Value} {h : Heap} (T : Top qv (looseW qv lo8) mean mg mb h) : ∀ x ∈ [bName 0, bName 1, bName 2, bName 3, Str.ofString "any"], mg x = none := by
  have e : ([bName 0, bName 1, bName 2, bName 3, Str.ofString "any"].all fun x => !startupNames.contains x && !(looseW qv lo8).contains x && !((recsOf qv).map (·.name)).contains x && !((litsOf qv).map (·.1)).contains x && !((clssOf qv (looseW qv lo8)).map (·.name)).contains x) = true := by kernel_rfl
  intro x hx
  have := List.all_eq_true.mp e x hx
  simp only [Bool.and_eq_true, Bool.not_eq_true', List.contains_eq_mem, decide_eq_false_iff_not] at this
  obtain ⟨⟨⟨⟨h1, h2⟩, h3⟩, h4⟩, h5⟩ := this
  exact T.free x h1 h2 h3 h4 h5
theorem boot_names : bootBuiltins (bName 0) = some (bVal 0) ∧ bootBuiltins (bName 1) = some (bVal 1) ∧ bootBuiltins (bName 2) = some (bVal 2) ∧ bootBuiltins (bName 3) = some (bVal 3) ∧ bootBuiltins (Str.ofString "any") = some (.builtin "any") := ⟨by kernel_rfl, by kernel_rfl, by kernel_rfl, by kernel_rfl, by kernel_rfl⟩
theorem seer_q : importsNone qv = true := by kernel_rfl
theorem walk_ok (plain : ∀ ns : List Int, ns.length ≤ 63 → PlainOk (ns.map .int)) : WalkX qv lo8 XPg Yf (fun _ => true) rw0.toRowW rc20 [] fun f vs => PySem.call f vs := by
  intro w s₀ s₁ mg mb G Y a o pm cd doc dV kV ho hd hcd hD hmg hgens args vals as L hpre hlay hrd hwl hlo
  wrow_args hpre hlay hrd hwl hlo
  rename_i ns _ _ _ _ _ _ _ sa its _ hL _ _ _ hI _ hlen _
  have T := G.T
  have hK : (fragOf s₁.heap).In s₁.heap := fun b o e => fragOf_mem e
  have keepK : ∀ {h : Heap}, (fragOf s₁.heap).In h → Sub s₁.heap h := fun x b o e => x b o (fragOf_look e)
  have hdV : dV = .none := hD.none rfl
  have hkV : kV = .none := hD.noKw
  subst hdV hkV
  have B : HB rw0.prog (fragOf s₁.heap) mg mb s₁.heap := ⟨hK, T.g, T.b, T.nolimit, T.seer seer_q, rfl⟩
  have fn : ∀ d ∈ recs, FnAt (fragOf s₁.heap) mg d := fun d hd => by
    rw [← recs_ok] at hd
    obtain ⟨a, o, pm, code, doc, h1, h2, h3, h4⟩ := T.fn d hd
    exact ⟨a, o, pm, code, doc, h1, fragOf_look h2, h3, fun h hh => h4.keeps (keepK hh)⟩
  have hG : ∀ i v, gl i = some v → GV rw0.prog w (fragOf s₁.heap) mg (gNm i) v := fun i v e => by
    obtain ⟨x, h1, h2⟩ := G.X i v e
    exact ⟨x, h1, fun X h hh hX => (h2 rw0.prog w).mono (fun b o _ q => keepK hh b o q) fun b o q y => hX b o (fragOf_look q) y⟩
  have fr := free_names T
  have hB : ∀ i, i < 4 → mg (bName i) = none ∧ mb (bName i) = some (bVal i) := fun i hi => by
    obtain ⟨b0, b1, b2, b3, b4⟩ := boot_names
    match i, hi with
    | 0, _ => exact ⟨fr _ (by simp), (T.builtins _ (by decide)).trans b0⟩
    | 1, _ => exact ⟨fr _ (by simp), (T.builtins _ (by decide)).trans b1⟩
    | 2, _ => exact ⟨fr _ (by simp), (T.builtins _ (by decide)).trans b2⟩
    | 3, _ => exact ⟨fr _ (by simp), (T.builtins _ (by decide)).trans b3⟩
  have hA : mg (Str.ofString "any") = none ∧ mb (Str.ofString "any") = some (.builtin "any") := ⟨fr _ (by simp), (T.builtins _ (by decide)).trans boot_names.2.2.2.2⟩
  have hW := wl_ok (prog := rw0.prog) (w := w) hG hB fn (fun n xs v e => left_call hG hA (fn rc5 (by simp [recs])) xs v e) 4
  have ht : 1 ≤ s₁.toks := by
    have h0 : 1 ≤ s₀.toks := of_decide_eq_true Y
    exact Nat.le_trans h0 (PySem.W.X.script_toks L rfl)
  have hobj := PySem.W.X.script_obj L hL
  obtain ⟨vt, vb, vc, kn, vn, ws, p0, p1, p2, p3, p4, p5⟩ := plain ns (by omega)
  refine law_call B hW (fragOf_look ho) hd (fun h hh => hcd.keeps (keepK hh)) ?_ ht p0 ⟨sa, its, rfl, fun y => y, ⟨_, hobj⟩, ints_vr hI⟩ p1 p2 p3 p4 p5 fun val h' tk q hs hv => ?_
  · exact ⟨rfl, by decide, by decide, ⟨_, rfl⟩⟩
  · cases hv
    refine ⟨.inl ⟨.bool true, .bool true, [], rfl, fun _ => rfl, .bool true, ?_, fun _ => ⟨List.nodup_nil, fun a ha => (nomatch ha)⟩⟩, .of_keep hs, rfl, .of_eq hgens⟩
    refine postC_of (X := true) (by rfl) ?_ rfl
    first | rfl | kernel_rfl | (simp [rw0, OpenLaw.row]; done)
end Mine

namespace Mine
theorem holds_main (left : LeftO pw qv lo8 Xt Yf (fun _ => true) 8318) (plain : ∀ ns : List Int, ns.length ≤ 63 → PlainOk (ns.map .int)) (lsaid : PySem.Challenge.rw_nm0118_01.wellSaid = true) : PySem.Challenge.rw_nm0118_01.Holds := by
  refine holds_law lsaid fun said => ?_
  refine holds_openX (q := qv) (loose := lo8) (Xt := Xt) (XP := XPg) (Yf := Yf) (Ya := fun _ => true) (d := rc20) (kwd := []) (N := 8318) left xpg_of xpg_keeps def20 the20 (by rfl) (fun s _ => recFacts_of (by rfl)) (by rfl) said (by decide +kernel) ⟨rfl, rfl, rfl, rfl, rfl, by decide +kernel⟩ ?_ (walk_ok plain)
  exact ⟨[ofPy (.list [.int 3, .int 1])], by decide +kernel, by decide +kernel⟩
end Mine

namespace Mine
noncomputable def kn0 : List Int := [0, 1, 2, 3, 4, 5, 11, 12, 13, 14, 15, 16, 17, 18, 19, 26, 27, 28, 32, 33, 34, 35, 36, 37, 38, 40, 41, 42, 43, 44, 45, 46, 47, 48, 49, 50, 51, 52, 53, 54, 55, 56, 57, 58, 59, 60, 61, 62, 63, 64, 65, 66, 67, 68, 69, 70, 71, 72, 73, 74, 75, 76, 77, 78, 79, 80, 81, 82, 83, 84, 85, 86, 87, 88, 89, 90, 91, 92, 93, 94, 95, 96, 97, 98, 99, 100, 101, 102, 103, 104, 105, 106, 107, 108, 109, 110, 111, 112, 113, 114, 115, 116, 117, 118, 119, 120, 121, 122, 123, 124, 125, 126, 127, 128, 129, 130, 131, 132, 133, 134, 135, 136, 137, 138, 139, 140, 141, 142, 143, 144, 145, 146, 147, 148, 149, 150, 151, 152, 153, 154, 155, 156, 157, 158, 159, 160, 161, 162, 163, 164, 165, 166, 167, 168, 169, 170, 171, 172, 173, 174, 175, 176, 177, 178, 179, 180, 181, 182, 183, 184, 185, 186, 187, 188, 189, 190, 191, 192, 193, 194, 195, 196, 208, 209, 210, 64512, 64513, 64514, 64515, 64516, 64517, 64518, 64519, 64520, 64521, 64522, 64523, 64524, 64525, 64526, 64527, 64528, 64529]
noncomputable def vn0 : List V := [(.str [117,110,114,101,97,99,104,97,98,108,101]), (.str [110,111,112]), (.str [98,108,111,99,107]), (.str [108,111,111,112]), (.str [105,102]), (.str [101,108,115,101]), (.str [101,110,100]), (.str [98,114]), (.str [98,114,95,105,102]), (.str [98,114,95,116,97,98,108,101]), (.str [114,101,116,117,114,110]), (.str [99,97,108,108]), (.str [99,97,108,108,95,105,110,100,105,114,101,99,116]), (.str [114,101,116,117,114,110,95,99,97,108,108]), (.str [114,101,116,117,114,110,95,99,97,108,108,95,105,110,100,105,114,101,99,116]), (.str [100,114,111,112]), (.str [115,101,108,101,99,116]), (.str [115,101,108,101,99,116]), (.str [108,111,99,97,108,46,103,101,116]), (.str [108,111,99,97,108,46,115,101,116]), (.str [108,111,99,97,108,46,116,101,101]), (.str [103,108,111,98,97,108,46,103,101,116]), (.str [103,108,111,98,97,108,46,115,101,116]), (.str [116,97,98,108,101,46,103,101,116]), (.str [116,97,98,108,101,46,115,101,116]), (.str [105,51,50,46,108,111,97,100]), (.str [105,54,52,46,108,111,97,100]), (.str [102,51,50,46,108,111,97,100]), (.str [102,54,52,46,108,111,97,100]), (.str [105,51,50,46,108,111,97,100,56,95,115]), (.str [105,51,50,46,108,111,97,100,56,95,117]), (.str [105,51,50,46,108,111,97,100,49,54,95,115]), (.str [105,51,50,46,108,111,97,100,49,54,95,117]), (.str [105,54,52,46,108,111,97,100,56,95,115]), (.str [105,54,52,46,108,111,97,100,56,95,117]), (.str [105,54,52,46,108,111,97,100,49,54,95,115]), (.str [105,54,52,46,108,111,97,100,49,54,95,117]), (.str [105,54,52,46,108,111,97,100,51,50,95,115]), (.str [105,54,52,46,108,111,97,100,51,50,95,117]), (.str [105,51,50,46,115,116,111,114,101]), (.str [105,54,52,46,115,116,111,114,101]), (.str [102,51,50,46,115,116,111,114,101]), (.str [102,54,52,46,115,116,111,114,101]), (.str [105,51,50,46,115,116,111,114,101,56]), (.str [105,51,50,46,115,116,111,114,101,49,54]), (.str [105,54,52,46,115,116,111,114,101,56]), (.str [105,54,52,46,115,116,111,114,101,49,54]), (.str [105,54,52,46,115,116,111,114,101,51,50]), (.str [109,101,109,111,114,121,46,115,105,122,101]), (.str [109,101,109,111,114,121,46,103,114,111,119]), (.str [105,51,50,46,99,111,110,115,116]), (.str [105,54,52,46,99,111,110,115,116]), (.str [102,51,50,46,99,111,110,115,116]), (.str [102,54,52,46,99,111,110,115,116]), (.str [105,51,50,46,101,113,122]), (.str [105,51,50,46,101,113]), (.str [105,51,50,46,110,101]), (.str [105,51,50,46,108,116,95,115]), (.str [105,51,50,46,108,116,95,117]), (.str [105,51,50,46,103,116,95,115]), (.str [105,51,50,46,103,116,95,117]), (.str [105,51,50,46,108,101,95,115]), (.str [105,51,50,46,108,101,95,117]), (.str [105,51,50,46,103,101,95,115]), (.str [105,51,50,46,103,101,95,117]), (.str [105,54,52,46,101,113,122]), (.str [105,54,52,46,101,113]), (.str [105,54,52,46,110,101]), (.str [105,54,52,46,108,116,95,115]), (.str [105,54,52,46,108,116,95,117]), (.str [105,54,52,46,103,116,95,115]), (.str [105,54,52,46,103,116,95,117]), (.str [105,54,52,46,108,101,95,115]), (.str [105,54,52,46,108,101,95,117]), (.str [105,54,52,46,103,101,95,115]), (.str [105,54,52,46,103,101,95,117]), (.str [102,51,50,46,101,113]), (.str [102,51,50,46,110,101]), (.str [102,51,50,46,108,116]), (.str [102,51,50,46,103,116]), (.str [102,51,50,46,108,101]), (.str [102,51,50,46,103,101]), (.str [102,54,52,46,101,113]), (.str [102,54,52,46,110,101]), (.str [102,54,52,46,108,116]), (.str [102,54,52,46,103,116]), (.str [102,54,52,46,108,101]), (.str [102,54,52,46,103,101]), (.str [105,51,50,46,99,108,122]), (.str [105,51,50,46,99,116,122]), (.str [105,51,50,46,112,111,112,99,110,116]), (.str [105,51,50,46,97,100,100]), (.str [105,51,50,46,115,117,98]), (.str [105,51,50,46,109,117,108]), (.str [105,51,50,46,100,105,118,95,115]), (.str [105,51,50,46,100,105,118,95,117]), (.str [105,51,50,46,114,101,109,95,115]), (.str [105,51,50,46,114,101,109,95,117]), (.str [105,51,50,46,97,110,100]), (.str [105,51,50,46,111,114]), (.str [105,51,50,46,120,111,114]), (.str [105,51,50,46,115,104,108]), (.str [105,51,50,46,115,104,114,95,115]), (.str [105,51,50,46,115,104,114,95,117]), (.str [105,51,50,46,114,111,116,108]), (.str [105,51,50,46,114,111,116,114]), (.str [105,54,52,46,99,108,122]), (.str [105,54,52,46,99,116,122]), (.str [105,54,52,46,112,111,112,99,110,116]), (.str [105,54,52,46,97,100,100]), (.str [105,54,52,46,115,117,98]), (.str [105,54,52,46,109,117,108]), (.str [105,54,52,46,100,105,118,95,115]), (.str [105,54,52,46,100,105,118,95,117]), (.str [105,54,52,46,114,101,109,95,115]), (.str [105,54,52,46,114,101,109,95,117]), (.str [105,54,52,46,97,110,100]), (.str [105,54,52,46,111,114]), (.str [105,54,52,46,120,111,114]), (.str [105,54,52,46,115,104,108]), (.str [105,54,52,46,115,104,114,95,115]), (.str [105,54,52,46,115,104,114,95,117]), (.str [105,54,52,46,114,111,116,108]), (.str [105,54,52,46,114,111,116,114]), (.str [102,51,50,46,97,98,115]), (.str [102,51,50,46,110,101,103]), (.str [102,51,50,46,99,101,105,108]), (.str [102,51,50,46,102,108,111,111,114]), (.str [102,51,50,46,116,114,117,110,99]), (.str [102,51,50,46,110,101,97,114,101,115,116]), (.str [102,51,50,46,115,113,114,116]), (.str [102,51,50,46,97,100,100]), (.str [102,51,50,46,115,117,98]), (.str [102,51,50,46,109,117,108]), (.str [102,51,50,46,100,105,118]), (.str [102,51,50,46,109,105,110]), (.str [102,51,50,46,109,97,120]), (.str [102,51,50,46,99,111,112,121,115,105,103,110]), (.str [102,54,52,46,97,98,115]), (.str [102,54,52,46,110,101,103]), (.str [102,54,52,46,99,101,105,108]), (.str [102,54,52,46,102,108,111,111,114]), (.str [102,54,52,46,116,114,117,110,99]), (.str [102,54,52,46,110,101,97,114,101,115,116]), (.str [102,54,52,46,115,113,114,116]), (.str [102,54,52,46,97,100,100]), (.str [102,54,52,46,115,117,98]), (.str [102,54,52,46,109,117,108]), (.str [102,54,52,46,100,105,118]), (.str [102,54,52,46,109,105,110]), (.str [102,54,52,46,109,97,120]), (.str [102,54,52,46,99,111,112,121,115,105,103,110]), (.str [105,51,50,46,119,114,97,112,95,105,54,52]), (.str [105,51,50,46,116,114,117,110,99,95,102,51,50,95,115]), (.str [105,51,50,46,116,114,117,110,99,95,102,51,50,95,117]), (.str [105,51,50,46,116,114,117,110,99,95,102,54,52,95,115]), (.str [105,51,50,46,116,114,117,110,99,95,102,54,52,95,117]), (.str [105,54,52,46,101,120,116,101,110,100,95,105,51,50,95,115]), (.str [105,54,52,46,101,120,116,101,110,100,95,105,51,50,95,117]), (.str [105,54,52,46,116,114,117,110,99,95,102,51,50,95,115]), (.str [105,54,52,46,116,114,117,110,99,95,102,51,50,95,117]), (.str [105,54,52,46,116,114,117,110,99,95,102,54,52,95,115]), (.str [105,54,52,46,116,114,117,110,99,95,102,54,52,95,117]), (.str [102,51,50,46,99,111,110,118,101,114,116,95,105,51,50,95,115]), (.str [102,51,50,46,99,111,110,118,101,114,116,95,105,51,50,95,117]), (.str [102,51,50,46,99,111,110,118,101,114,116,95,105,54,52,95,115]), (.str [102,51,50,46,99,111,110,118,101,114,116,95,105,54,52,95,117]), (.str [102,51,50,46,100,101,109,111,116,101,95,102,54,52]), (.str [102,54,52,46,99,111,110,118,101,114,116,95,105,51,50,95,115]), (.str [102,54,52,46,99,111,110,118,101,114,116,95,105,51,50,95,117]), (.str [102,54,52,46,99,111,110,118,101,114,116,95,105,54,52,95,115]), (.str [102,54,52,46,99,111,110,118,101,114,116,95,105,54,52,95,117]), (.str [102,54,52,46,112,114,111,109,111,116,101,95,102,51,50]), (.str [105,51,50,46,114,101,105,110,116,101,114,112,114,101,116,95,102,51,50]), (.str [105,54,52,46,114,101,105,110,116,101,114,112,114,101,116,95,102,54,52]), (.str [102,51,50,46,114,101,105,110,116,101,114,112,114,101,116,95,105,51,50]), (.str [102,54,52,46,114,101,105,110,116,101,114,112,114,101,116,95,105,54,52]), (.str [105,51,50,46,101,120,116,101,110,100,56,95,115]), (.str [105,51,50,46,101,120,116,101,110,100,49,54,95,115]), (.str [105,54,52,46,101,120,116,101,110,100,56,95,115]), (.str [105,54,52,46,101,120,116,101,110,100,49,54,95,115]), (.str [105,54,52,46,101,120,116,101,110,100,51,50,95,115]), (.str [114,101,102,46,110,117,108,108]), (.str [114,101,102,46,105,115,95,110,117,108,108]), (.str [114,101,102,46,102,117,110,99]), (.str [105,51,50,46,116,114,117,110,99,95,115,97,116,95,102,51,50,95,115]), (.str [105,51,50,46,116,114,117,110,99,95,115,97,116,95,102,51,50,95,117]), (.str [105,51,50,46,116,114,117,110,99,95,115,97,116,95,102,54,52,95,115]), (.str [105,51,50,46,116,114,117,110,99,95,115,97,116,95,102,54,52,95,117]), (.str [105,54,52,46,116,114,117,110,99,95,115,97,116,95,102,51,50,95,115]), (.str [105,54,52,46,116,114,117,110,99,95,115,97,116,95,102,51,50,95,117]), (.str [105,54,52,46,116,114,117,110,99,95,115,97,116,95,102,54,52,95,115]), (.str [105,54,52,46,116,114,117,110,99,95,115,97,116,95,102,54,52,95,117]), (.str [109,101,109,111,114,121,46,105,110,105,116]), (.str [100,97,116,97,46,100,114,111,112]), (.str [109,101,109,111,114,121,46,99,111,112,121]), (.str [109,101,109,111,114,121,46,102,105,108,108]), (.str [116,97,98,108,101,46,105,110,105,116]), (.str [101,108,101,109,46,100,114,111,112]), (.str [116,97,98,108,101,46,99,111,112,121]), (.str [116,97,98,108,101,46,103,114,111,119]), (.str [116,97,98,108,101,46,115,105,122,101]), (.str [116,97,98,108,101,46,102,105,108,108])]
noncomputable def cn0 : List (List Nat) := [[117,110,114,101,97,99,104,97,98,108,101], [110,111,112], [98,108,111,99,107], [108,111,111,112], [105,102], [101,108,115,101], [101,110,100], [98,114], [98,114,95,105,102], [98,114,95,116,97,98,108,101], [114,101,116,117,114,110], [99,97,108,108], [99,97,108,108,95,105,110,100,105,114,101,99,116], [114,101,116,117,114,110,95,99,97,108,108], [114,101,116,117,114,110,95,99,97,108,108,95,105,110,100,105,114,101,99,116], [100,114,111,112], [115,101,108,101,99,116], [108,111,99,97,108,46,103,101,116], [108,111,99,97,108,46,115,101,116], [108,111,99,97,108,46,116,101,101], [103,108,111,98,97,108,46,103,101,116], [103,108,111,98,97,108,46,115,101,116], [116,97,98,108,101,46,103,101,116], [116,97,98,108,101,46,115,101,116], [105,51,50,46,108,111,97,100], [105,54,52,46,108,111,97,100], [105,51,50,46,108,111,97,100,56,95,115], [105,51,50,46,108,111,97,100,56,95,117], [105,51,50,46,108,111,97,100,49,54,95,115], [105,51,50,46,108,111,97,100,49,54,95,117], [105,54,52,46,108,111,97,100,56,95,115], [105,54,52,46,108,111,97,100,56,95,117], [105,54,52,46,108,111,97,100,49,54,95,115], [105,54,52,46,108,111,97,100,49,54,95,117], [105,54,52,46,108,111,97,100,51,50,95,115], [105,54,52,46,108,111,97,100,51,50,95,117], [105,51,50,46,115,116,111,114,101], [105,54,52,46,115,116,111,114,101], [105,51,50,46,115,116,111,114,101,56], [105,51,50,46,115,116,111,114,101,49,54], [105,54,52,46,115,116,111,114,101,56], [105,54,52,46,115,116,111,114,101,49,54], [105,54,52,46,115,116,111,114,101,51,50], [109,101,109,111,114,121,46,115,105,122,101], [109,101,109,111,114,121,46,103,114,111,119], [105,51,50,46,99,111,110,115,116], [105,54,52,46,99,111,110,115,116], [105,51,50,46,101,113,122], [105,51,50,46,101,113], [105,51,50,46,110,101], [105,51,50,46,108,116,95,115], [105,51,50,46,108,116,95,117], [105,51,50,46,103,116,95,115], [105,51,50,46,103,116,95,117], [105,51,50,46,108,101,95,115], [105,51,50,46,108,101,95,117], [105,51,50,46,103,101,95,115], [105,51,50,46,103,101,95,117], [105,54,52,46,101,113,122], [105,54,52,46,101,113], [105,54,52,46,110,101], [105,54,52,46,108,116,95,115], [105,54,52,46,108,116,95,117], [105,54,52,46,103,116,95,115], [105,54,52,46,103,116,95,117], [105,54,52,46,108,101,95,115], [105,54,52,46,108,101,95,117], [105,54,52,46,103,101,95,115], [105,54,52,46,103,101,95,117], [105,51,50,46,99,108,122], [105,51,50,46,99,116,122], [105,51,50,46,112,111,112,99,110,116], [105,51,50,46,97,100,100], [105,51,50,46,115,117,98], [105,51,50,46,109,117,108], [105,51,50,46,100,105,118,95,115], [105,51,50,46,100,105,118,95,117], [105,51,50,46,114,101,109,95,115], [105,51,50,46,114,101,109,95,117], [105,51,50,46,97,110,100], [105,51,50,46,111,114], [105,51,50,46,120,111,114], [105,51,50,46,115,104,108], [105,51,50,46,115,104,114,95,115], [105,51,50,46,115,104,114,95,117], [105,51,50,46,114,111,116,108], [105,51,50,46,114,111,116,114], [105,54,52,46,99,108,122], [105,54,52,46,99,116,122], [105,54,52,46,112,111,112,99,110,116], [105,54,52,46,97,100,100], [105,54,52,46,115,117,98], [105,54,52,46,109,117,108], [105,54,52,46,100,105,118,95,115], [105,54,52,46,100,105,118,95,117], [105,54,52,46,114,101,109,95,115], [105,54,52,46,114,101,109,95,117], [105,54,52,46,97,110,100], [105,54,52,46,111,114], [105,54,52,46,120,111,114], [105,54,52,46,115,104,108], [105,54,52,46,115,104,114,95,115], [105,54,52,46,115,104,114,95,117], [105,54,52,46,114,111,116,108], [105,54,52,46,114,111,116,114], [105,51,50,46,119,114,97,112,95,105,54,52], [105,54,52,46,101,120,116,101,110,100,95,105,51,50,95,115], [105,54,52,46,101,120,116,101,110,100,95,105,51,50,95,117], [105,51,50,46,101,120,116,101,110,100,56,95,115], [105,51,50,46,101,120,116,101,110,100,49,54,95,115], [105,54,52,46,101,120,116,101,110,100,56,95,115], [105,54,52,46,101,120,116,101,110,100,49,54,95,115], [105,54,52,46,101,120,116,101,110,100,51,50,95,115], [114,101,102,46,110,117,108,108], [114,101,102,46,105,115,95,110,117,108,108], [114,101,102,46,102,117,110,99], [109,101,109,111,114,121,46,105,110,105,116], [100,97,116,97,46,100,114,111,112], [109,101,109,111,114,121,46,99,111,112,121], [109,101,109,111,114,121,46,102,105,108,108], [116,97,98,108,101,46,105,110,105,116], [101,108,101,109,46,100,114,111,112], [116,97,98,108,101,46,99,111,112,121], [116,97,98,108,101,46,103,114,111,119], [116,97,98,108,101,46,115,105,122,101], [116,97,98,108,101,46,102,105,108,108]]
noncomputable def cv0 : List V := [(.int 0), (.int 1), (.int 2), (.int 3), (.int 4), (.int 5), (.int 11), (.int 12), (.int 13), (.int 14), (.int 15), (.int 16), (.int 17), (.int 18), (.int 19), (.int 26), (.int 27), (.int 32), (.int 33), (.int 34), (.int 35), (.int 36), (.int 37), (.int 38), (.int 40), (.int 41), (.int 44), (.int 45), (.int 46), (.int 47), (.int 48), (.int 49), (.int 50), (.int 51), (.int 52), (.int 53), (.int 54), (.int 55), (.int 58), (.int 59), (.int 60), (.int 61), (.int 62), (.int 63), (.int 64), (.int 65), (.int 66), (.int 69), (.int 70), (.int 71), (.int 72), (.int 73), (.int 74), (.int 75), (.int 76), (.int 77), (.int 78), (.int 79), (.int 80), (.int 81), (.int 82), (.int 83), (.int 84), (.int 85), (.int 86), (.int 87), (.int 88), (.int 89), (.int 90), (.int 103), (.int 104), (.int 105), (.int 106), (.int 107), (.int 108), (.int 109), (.int 110), (.int 111), (.int 112), (.int 113), (.int 114), (.int 115), (.int 116), (.int 117), (.int 118), (.int 119), (.int 120), (.int 121), (.int 122), (.int 123), (.int 124), (.int 125), (.int 126), (.int 127), (.int 128), (.int 129), (.int 130), (.int 131), (.int 132), (.int 133), (.int 134), (.int 135), (.int 136), (.int 137), (.int 138), (.int 167), (.int 172), (.int 173), (.int 192), (.int 193), (.int 194), (.int 195), (.int 196), (.int 208), (.int 209), (.int 210), (.int 64520), (.int 64521), (.int 64522), (.int 64523), (.int 64524), (.int 64525), (.int 64526), (.int 64527), (.int 64528), (.int 64529)]
noncomputable abbrev nmV : V := .dI kn0 vn0
noncomputable abbrev cdV : V := .dS cn0 cv0
theorem ws_ok : compV tg20 elt20 (kn0.map .int) [.un, .cl nmV] = some vn0 := by kernel_rfl
end Mine

namespace Mine
noncomputable def isT : Option V → Bool
  | some (.bool b) => b
  | _ => false
noncomputable def told (x : Int) : Bool := isT ((WL 4).f 16 [.int x, nmV, cdV])
theorem told_c0 : (((253 :: kn0).drop 0).take 20).all told = true := by kernel_rfl
theorem told_c1 : (((253 :: kn0).drop 20).take 20).all told = true := by kernel_rfl
theorem told_c2 : (((253 :: kn0).drop 40).take 20).all told = true := by kernel_rfl
theorem told_c3 : (((253 :: kn0).drop 60).take 20).all told = true := by kernel_rfl
theorem told_c4 : (((253 :: kn0).drop 80).take 20).all told = true := by kernel_rfl
theorem told_c5 : (((253 :: kn0).drop 100).take 20).all told = true := by kernel_rfl
theorem told_c6 : (((253 :: kn0).drop 120).take 20).all told = true := by kernel_rfl
theorem told_c7 : (((253 :: kn0).drop 140).take 20).all told = true := by kernel_rfl
theorem told_c8 : (((253 :: kn0).drop 160).take 20).all told = true := by kernel_rfl
theorem told_c9 : (((253 :: kn0).drop 180).take 20).all told = true := by kernel_rfl
theorem told_c10 : (((253 :: kn0).drop 200).take 20).all told = true := by kernel_rfl
end Mine

namespace Mine
/-- a code that is no key and not 253: no range of the tables has it -/
noncomputable def inKeys (x : Int) : Bool := kn0.contains x || x == 253
theorem leftIn_no (x : Int) : ∀ (l : List V), (∀ u ∈ l, ∃ a c : Int, u = .tup [.int a, .int c] ∧ ¬ (a ≤ x ∧ x ≤ c)) → leftIn x l = false
  | [], _ => rfl
  | u :: l, h => by
    obtain ⟨a, c, rfl, q⟩ := h u (List.mem_cons_self ..)
    have ih := leftIn_no x l fun v hv => h v (List.mem_cons_of_mem _ hv)
    simp only [leftIn, ih, Bool.or_false, Bool.and_eq_false_iff, decide_eq_false_iff_not]
    by_cases q1 : a ≤ x
    · exact .inr fun q2 => q ⟨q1, q2⟩
    · exact .inl q1
/-- a range of keys -/
theorem range_no {x : Int} (hx : inKeys x = false) (a : Int) (k : Nat) (h : ((List.range k).all fun i => inKeys (a + (i : Int))) = true) : ¬ (a ≤ x ∧ x ≤ a + (k : Int) - 1) := by
  rintro ⟨h1, h2⟩
  have hi : (x - a).toNat < k := by omega
  have := List.all_eq_true.mp h (x - a).toNat (List.mem_range.mpr hi)
  have e : a + (((x - a).toNat : Nat) : Int) = x := by omega
  simp only [e] at this
  rw [hx] at this; cases this
theorem lookI_no {x : Int} (hx : inKeys x = false) : ∀ (ks : List Int) (vs : List V), ks.all inKeys = true → lookI ks vs x = none
  | [], vs, _ => by cases vs <;> rfl
  | k :: ks, [], _ => rfl
  | k :: ks, v :: vs, h => by
    simp only [List.all_cons, Bool.and_eq_true] at h
    have : k ≠ x := fun q => by rw [q, hx] at h; cases h.1
    simp only [lookI, if_neg this]
    exact lookI_no hx ks vs h.2
theorem cmp_chain {a x c : Int} (h : ¬ (a ≤ x ∧ x ≤ c)) : (match decide (a ≤ x) with
    | true => some (decide (x ≤ c))
    | false => some false) = some false := by
  by_cases q : a ≤ x
  · have : ¬ x ≤ c := fun z => h ⟨q, z⟩
    simp [q, this]
  · simp [q]
end Mine

namespace Mine
/-- the loop over the rows of NUMBERS finds none -/
theorem nk_loop {W : Wd} {x : Int} : ∀ (l : List V) (u1 u2 u3 u4 : Sl), (∀ u ∈ l, ∃ (a c : Int) (p q : V), u = .tup [.int a, .int c, p, q] ∧ ¬ (a ≤ x ∧ x ≤ c)) → (∀ u ∈ [u1, u2, u3, u4], u = .un ∨ ∃ v, u = .fr v) →
    ∃ σ, loopV (.tp [(1, (P 55 8 55 13)), (2, (P 55 15 55 19)), (3, (P 55 21 55 27)), (4, (P 55 29 55 36))] 0 (P 55 8 55 36)) (exs W (.cons (.ifs (.chn (.loc 1 (P 56 11 56 16)) .LtE (.loc 0 (P 56 20 56 24)) .LtE (.loc 2 (P 56 28 56 32)) (P 56 11 56 32)) (.cons (.ret (.tup (.cons (.loc 3 (P 57 20 57 26)) (.cons (.loc 4 (P 57 28 57 35)) .nil)) 0 (P 57 19 57 36)) (P 57 12 57 36)) .nil) .nil (P 56 8 57 36)) .nil)) l [.fr (.int x), u1, u2, u3, u4] = some (.nx σ)
  | [], u1, u2, u3, u4, _, _ => ⟨_, rfl⟩
  | u :: l, u1, u2, u3, u4, h, hu => by
    obtain ⟨a, c, p, q, rfl, hn⟩ := h u (List.mem_cons_self ..)
    obtain ⟨σ, hσ⟩ := nk_loop (W := W) (x := x) l (.fr (.int a)) (.fr (.int c)) (.fr p) (.fr q) (fun v hv => h v (List.mem_cons_of_mem _ hv)) (by simp)
    refine ⟨σ, ?_⟩
    have st : storeG [.fr (.int x), u1, u2, u3, u4] (.tp [(1, (P 55 8 55 13)), (2, (P 55 15 55 19)), (3, (P 55 21 55 27)), (4, (P 55 29 55 36))] 0 (P 55 8 55 36)) (.tup [.int a, .int c, p, q]) = some [.fr (.int x), .fr (.int a), .fr (.int c), .fr p, .fr q] := by
      have h1 := hu u1 (by simp)
      have h2 := hu u2 (by simp)
      have h3 := hu u3 (by simp)
      have h4 := hu u4 (by simp)
      rcases h1 with rfl | ⟨_, rfl⟩ <;> rcases h2 with rfl | ⟨_, rfl⟩ <;> rcases h3 with rfl | ⟨_, rfl⟩ <;> rcases h4 with rfl | ⟨_, rfl⟩ <;> rfl
    have cc := cmp_chain hn
    have bd : exs W (.cons (.ifs (.chn (.loc 1 (P 56 11 56 16)) .LtE (.loc 0 (P 56 20 56 24)) .LtE (.loc 2 (P 56 28 56 32)) (P 56 11 56 32)) (.cons (.ret (.tup (.cons (.loc 3 (P 57 20 57 26)) (.cons (.loc 4 (P 57 28 57 35)) .nil)) 0 (P 57 19 57 36)) (P 57 12 57 36)) .nil) .nil (P 56 8 57 36)) .nil) [.fr (.int x), .fr (.int a), .fr (.int c), .fr p, .fr q] = some (.nx [.fr (.int x), .fr (.int a), .fr (.int c), .fr p, .fr q]) := by
      simp only [exs, ex, tv, ev, full, locV, cmpB, List.map_cons, List.map_nil, List.getElem?_cons_succ, List.getElem?_cons_zero]
      by_cases q1 : a ≤ x
      · have q2 : ¬ x ≤ c := fun z => hn ⟨q1, z⟩
        simp [q1, q2]
      · simp [q1]
    simp only [loopV, st, bd, hσ]
theorem nk_rows {x : Int} (hx : inKeys x = false) : ∀ u ∈ (match gNUMBERS with
    | .tup l => l
    | _ => []), ∃ (a c : Int) (p q : V), u = .tup [.int a, .int c, p, q] ∧ ¬ (a ≤ x ∧ x ≤ c) := by
  intro u hu
  simp only [gNUMBERS, List.mem_cons, List.not_mem_nil, or_false] at hu
  have r := fun (a : Int) (k : Nat) h => range_no hx a k h
  rcases hu with rfl | rfl | rfl | rfl | rfl | rfl | rfl | rfl | rfl | rfl | rfl | rfl
  · exact ⟨_, _, _, _, rfl, by have := r 69 1 (by decide +kernel); omega⟩
  · exact ⟨_, _, _, _, rfl, by have := r 70 10 (by decide +kernel); omega⟩
  · exact ⟨_, _, _, _, rfl, by have := r 80 1 (by decide +kernel); omega⟩
  · exact ⟨_, _, _, _, rfl, by have := r 81 10 (by decide +kernel); omega⟩
  · exact ⟨_, _, _, _, rfl, by have := r 103 3 (by decide +kernel); omega⟩
  · exact ⟨_, _, _, _, rfl, by have := r 106 15 (by decide +kernel); omega⟩
  · exact ⟨_, _, _, _, rfl, by have := r 121 3 (by decide +kernel); omega⟩
  · exact ⟨_, _, _, _, rfl, by have := r 124 15 (by decide +kernel); omega⟩
  · exact ⟨_, _, _, _, rfl, by have := r 167 1 (by decide +kernel); omega⟩
  · exact ⟨_, _, _, _, rfl, by have := r 172 2 (by decide +kernel); omega⟩
  · exact ⟨_, _, _, _, rfl, by have := r 192 2 (by decide +kernel); omega⟩
  · exact ⟨_, _, _, _, rfl, by have := r 194 3 (by decide +kernel); omega⟩
theorem exs_nx {W : Wd} {st : S} {l : Ss} {σ σ' : Sg} (h : ex W st σ = some (.nx σ')) : exs W (.cons st l) σ = exs W l σ' := by
  show (match ex W st σ with
    | some (.nx σ) => exs W l σ
    | some (.rt v) => some (.rt v)
    | none => none) = _
  rw [h]
theorem exs_rt {W : Wd} {st : S} {l : Ss} {σ : Sg} {v : V} (h : ex W st σ = some (.rt v)) : exs W (.cons st l) σ = some (.rt v) := by
  show (match ex W st σ with
    | some (.nx σ) => exs W l σ
    | some (.rt v) => some (.rt v)
    | none => none) = _
  rw [h]
theorem ex_fr {W : Wd} {t : Tg} {e : E} {b : Ss} {p : Pos} {σ : Sg} {v : V} {l : List V} (he : evA W σ e = some v) (hl : itV v = some l) (hd : (isD v && isTg2 t) = false) : ex W (.fr t e b p) σ = loopV t (exs W b) l σ := by
  simp only [ex, he, hl, hd, Bool.false_eq_true, if_false]
theorem ex_if_t {W : Wd} {c : E} {a b : Ss} {p : Pos} {σ : Sg} (h : tv W (full σ) c = some true) : ex W (.ifs c a b p) σ = exs W a σ := by simp only [ex, h]
theorem ex_if_f {W : Wd} {c : E} {a b : Ss} {p : Pos} {σ : Sg} (h : tv W (full σ) c = some false) : ex W (.ifs c a b p) σ = exs W b σ := by simp only [ex, h]
theorem runB_of {W : Wd} {F : Fd} {xs : List V} {v : V} (hl : xs.length = F.np) (h : exs (cut W F) F.body (xs.map .fr ++ List.replicate (F.ls.length - F.np) .un) = some (.rt v)) : runB W F xs = some v := by
  unfold runB
  rw [if_pos hl, h]
theorem nk_none {W : Wd} (hg : W.g = gl) {x : Int} (hx : inKeys x = false) : runB W fd0 [.int x] = some .none := by
  obtain ⟨σ, hσ⟩ := nk_loop (W := cut W fd0) (x := x) _ .un .un .un .un (nk_rows hx) (by simp)
  have e1 : (cut W fd0).g 5 = some gNUMBERS := by
    show (if fd0.gs.contains 5 then W.g 5 else none) = _
    rw [hg]; rfl
  have e2 : ∀ σ : Sg, evA (cut W fd0) σ (.glo 5 (P 55 40 55 47)) = some gNUMBERS := fun σ => by
    unfold evA
    simp only [ev, e1]
  refine runB_of rfl ?_
  show exs (cut W fd0) bd0 [.fr (.int x), .un, .un, .un, .un] = _
  refine (exs_nx ((ex_fr (e2 _) rfl rfl).trans hσ)).trans ?_
  rfl
/-- lookups of no key -/
theorem no_loads {x : Int} (hx : inKeys x = false) : inV (.int x) gLOADS = some false := by
  show some (lookI _ _ x).isSome = _
  rw [lookI_no hx _ _ (by decide +kernel)]; rfl
theorem no_stores {x : Int} (hx : inKeys x = false) : inV (.int x) gSTORES = some false := by
  show some (lookI _ _ x).isSome = _
  rw [lookI_no hx _ _ (by decide +kernel)]; rfl
theorem no_forms {x : Int} (hx : inKeys x = false) : inV (.int x) gFORMS = some false := by
  show some (lookI _ _ x).isSome = _
  rw [lookI_no hx _ _ (by decide +kernel)]; rfl
theorem no_fixed {x : Int} (hx : inKeys x = false) : inV (.int x) gFIXED = some false := by
  show some (lookI _ _ x).isSome = _
  rw [lookI_no hx _ _ (by decide +kernel)]; rfl
theorem no_names {x : Int} (hx : inKeys x = false) : inV (.int x) gNAMES = some false := by
  show some (lookI _ _ x).isSome = _
  rw [lookI_no hx _ _ (by decide +kernel)]; rfl
end Mine

namespace Mine
theorem tv_in {W : Wd} {σ : Sg} {i g : Nat} {p1 p2 p : Pos} {x : Int} {v : V} {b : Bool} (h1 : locV (full σ) i = some (.int x)) (h2 : W.g g = some v) (h3 : inV (.int x) v = some b) : tv W (full σ) (.cmp (.loc i p1) .In (.glo g p2) p) = some b := by
  simp only [tv, ev, h1, h2, cmpB, h3]
theorem cut_g {W : Wd} {F : Fd} {i : Nat} {v : V} (h1 : F.gs.contains i = true) (h2 : W.g i = some v) : (cut W F).g i = some v := by
  show (if F.gs.contains i then W.g i else none) = _
  rw [if_pos h1, h2]
theorem cut_f {W : Wd} {F : Fd} {i : Nat} {xs : List V} {v : V} (h1 : F.fs.contains i = true) (h2 : W.f i xs = some v) : (cut W F).f i xs = some v := by
  show (if F.fs.contains i then W.f i xs else none) = _
  rw [if_pos h1, h2]
theorem form_none {W : Wd} (hg : W.g = gl) {x : Int} (hx : inKeys x = false) (h0 : W.f 0 [.int x] = some .none) : runB W fd1 [.int x] = some .none := by
  have c3 : (cut W fd1).g 3 = some gFORMS := cut_g rfl (by rw [hg]; rfl)
  have c0 : (cut W fd1).g 0 = some gLOADS := cut_g rfl (by rw [hg]; rfl)
  have c1 : (cut W fd1).g 1 = some gSTORES := cut_g rfl (by rw [hg]; rfl)
  have cf : (cut W fd1).f 0 [.int x] = some .none := cut_f rfl h0
  refine runB_of rfl ?_
  show exs (cut W fd1) bd1 [.fr (.int x)] = _
  refine (exs_nx ((ex_if_f (tv_in rfl c3 (no_forms hx))).trans rfl)).trans ?_
  refine (exs_nx ((ex_if_f ?_).trans rfl)).trans ?_
  · have a1 := tv_in (W := cut W fd1) (σ := [.fr (.int x)]) (i := 0) (p1 := P 62 7 62 11) (p2 := P 62 15 62 20) (p := P 62 7 62 20) rfl c0 (no_loads hx)
    have a2 := tv_in (W := cut W fd1) (σ := [.fr (.int x)]) (i := 0) (p1 := P 62 24 62 28) (p2 := P 62 32 62 38) (p := P 62 24 62 38) rfl c1 (no_stores hx)
    rw [tv, a1]
    exact a2
  · refine exs_rt ?_
    simp only [ex, ev, evs, tv, full, locV, List.map_cons, List.map_nil, List.getElem?_cons_zero, cf, cmpB, isNone, Option.map_some]
theorem stack_none {W : Wd} (hg : W.g = gl) {x : Int} (hx : inKeys x = false) (h0 : W.f 0 [.int x] = some .none) : runB W fd2 [.int x] = some .none := by
  have c4 : (cut W fd2).g 4 = some gFIXED := cut_g rfl (by rw [hg]; rfl)
  have c0 : (cut W fd2).g 0 = some gLOADS := cut_g rfl (by rw [hg]; rfl)
  have c1 : (cut W fd2).g 1 = some gSTORES := cut_g rfl (by rw [hg]; rfl)
  have cf : (cut W fd2).f 0 [.int x] = some .none := cut_f rfl h0
  refine runB_of rfl ?_
  show exs (cut W fd2) bd2 [.fr (.int x)] = _
  refine (exs_nx ((ex_if_f (tv_in rfl c4 (no_fixed hx))).trans rfl)).trans ?_
  refine (exs_nx ((ex_if_f (tv_in rfl c0 (no_loads hx))).trans rfl)).trans ?_
  refine (exs_nx ((ex_if_f (tv_in rfl c1 (no_stores hx))).trans rfl)).trans ?_
  refine exs_rt ?_
  simp only [ex, ev, evs, full, locV, List.map_cons, List.map_nil, List.getElem?_cons_zero, cf, Option.map_some]
theorem block_val {W : Wd} (hg : W.g = gl) {x : Int} : runB W fd4 [.int x] = some (.bool (decide (x = 2) || (decide (x = 3) || decide (x = 4)))) := by
  have c8 : (cut W fd4).g 8 = some (.int 2) := cut_g rfl (by rw [hg]; rfl)
  have c9 : (cut W fd4).g 9 = some (.int 3) := cut_g rfl (by rw [hg]; rfl)
  have c10 : (cut W fd4).g 10 = some (.int 4) := cut_g rfl (by rw [hg]; rfl)
  refine runB_of rfl ?_
  show exs (cut W fd4) bd4 [.fr (.int x)] = _
  refine exs_rt ?_
  have e2 : ∀ a : Int, PyData.eqv (.int a) (.int x) = decide (x = a) := fun a => by
    show decide (a = x) = decide (x = a)
    by_cases q : x = a
    · simp [q]
    · simp [q, Ne.symm q]
  have hb : (3 : Nat) ≤ big := by decide
  simp only [ex, ev, evs, full, locV, List.map_cons, List.map_nil, List.getElem?_cons_zero, c8, c9, c10, cmpB, inV, flat, allFlat, Bool.and_true, if_true, anyEq, toP, e2, Option.map_some, List.length_cons, List.length_nil, Nat.zero_add, Bool.or_false]
  simp [hb, allFlat, flat, anyEq, toP, e2]
end Mine

namespace Mine
noncomputable abbrev blk (c : Int) : Prop := c = 2 ∨ c = 3 ∨ c = 4
/-- the open blocks before place n, the innermost first -/
noncomputable def stk (c : Nat → Int) : Nat → List Nat
  | 0 => []
  | n + 1 => if blk (c n) then n :: stk c n else if c n = 11 then (stk c n).tail else stk c n
section
variable {c : Nat → Int}
theorem not_blk11 {x : Int} (h : x = 11) : ¬ blk x := by subst h; unfold blk; omega
theorem not_blk5 {x : Int} (h : x = 5) : ¬ blk x := by subst h; unfold blk; omega
theorem stk_blk {n : Nat} (h : blk (c n)) : stk c (n + 1) = n :: stk c n := by rw [stk, if_pos h]
theorem stk_end {n : Nat} (h : c n = 11) : stk c (n + 1) = (stk c n).tail := by rw [stk, if_neg (not_blk11 h), if_pos h]
theorem stk_no {n : Nat} (h : ¬ blk (c n)) (h' : c n ≠ 11) : stk c (n + 1) = stk c n := by rw [stk, if_neg h, if_neg h']
theorem stk_lt : ∀ {n b : Nat}, b ∈ stk c n → b < n ∧ blk (c b)
  | n + 1, b, h => by
    rw [stk] at h
    split at h
    · rename_i q
      rcases List.mem_cons.mp h with rfl | h
      · exact ⟨Nat.lt_succ_self _, q⟩
      · exact ⟨Nat.lt_succ_of_lt (stk_lt h).1, (stk_lt h).2⟩
    · split at h
      · exact ⟨Nat.lt_succ_of_lt (stk_lt (List.mem_of_mem_tail h)).1, (stk_lt (List.mem_of_mem_tail h)).2⟩
      · exact ⟨Nat.lt_succ_of_lt (stk_lt h).1, (stk_lt h).2⟩
theorem stk_sorted : ∀ (n : Nat), (stk c n).Pairwise (· > ·)
  | 0 => List.Pairwise.nil
  | n + 1 => by
    rw [stk]
    split
    · exact List.pairwise_cons.mpr ⟨fun b h => (stk_lt h).1, stk_sorted n⟩
    · split
      · exact (stk_sorted n).tail
      · exact stk_sorted n
theorem stk_congr {c' : Nat → Int} : ∀ {n : Nat}, (∀ m, m < n → c m = c' m) → stk c n = stk c' n
  | 0, _ => rfl
  | n + 1, h => by
    rw [stk, stk, h n (Nat.lt_succ_self n), stk_congr fun m hm => h m (Nat.lt_succ_of_lt hm)]
/-- a block that is not open at n and begins before n is not open later -/
theorem stk_gone {b n : Nat} (hb : b < n) (h : b ∉ stk c n) : ∀ k, b ∉ stk c (n + k)
  | 0 => h
  | k + 1 => by
    have ih := stk_gone hb h k
    rw [← Nat.add_assoc, stk]
    split
    · intro q
      rcases List.mem_cons.mp q with q | q
      · omega
      · exact ih q
    · split
      · exact fun q => ih (List.mem_of_mem_tail q)
      · exact ih
noncomputable def Pop (c : Nat → Int) (b v : Nat) : Prop := c v = 11 ∧ (stk c v).head? = some b
noncomputable def Lrel (c : Nat → Int) (n b m : Nat) : Prop := m < n ∧ c m = 5 ∧ (stk c m).head? = some b ∧ ∀ m', m < m' → m' < n → c m' = 5 → (stk c m').head? ≠ some b
noncomputable def Erel (c : Nat → Int) (n k v : Nat) : Prop := v < n ∧ (Pop c k v ∨ ∃ b, Lrel c v b k ∧ Pop c b v)
noncomputable def Drel (c : Nat → Int) (n k v : Nat) : Prop := ∃ b, b < n ∧ Pop c b v ∧ (k = b ∨ Lrel c v b k)
noncomputable def Mrel (c : Nat → Int) (n b m : Nat) : Prop := b < n ∧ ∃ v, Pop c b v ∧ Lrel c v b m
theorem head_mem {l : List Nat} {b : Nat} (h : l.head? = some b) : b ∈ l := List.mem_of_head? h
theorem head_cons {l : List Nat} {b : Nat} (h : l.head? = some b) : l = b :: l.tail := by
  cases l with
  | nil => cases h
  | cons x r => cases h; rfl
theorem pop_blk {b v : Nat} (h : Pop c b v) : b < v ∧ blk (c b) := stk_lt (head_mem h.2)
theorem pop_out {b v : Nat} (h : Pop c b v) : b ∉ stk c (v + 1) := by
  have s := stk_sorted (c := c) v
  rw [stk_end h.1]
  rw [head_cons h.2] at s
  intro q
  exact absurd ((List.pairwise_cons.mp s).1 b q) (Nat.lt_irrefl _)
theorem pop_gone {b v n : Nat} (h : Pop c b v) (hn : v < n) : b ∉ stk c n := by
  have := stk_gone (Nat.lt_succ_of_lt (pop_blk h).1) (pop_out h) (n - (v + 1))
  rwa [Nat.add_sub_cancel' hn] at this
theorem pop_one {b v v' : Nat} (h : Pop c b v) (h' : Pop c b v') : v = v' := by
  rcases Nat.lt_trichotomy v v' with q | q | q
  · exact absurd (head_mem h'.2) (pop_gone h q)
  · exact q
  · exact absurd (head_mem h.2) (pop_gone h' q)
theorem lrel_one {n b m m' : Nat} (h : Lrel c n b m) (h' : Lrel c n b m') : m = m' := by
  rcases Nat.lt_trichotomy m m' with q | q | q
  · exact absurd h'.2.2.1 (h.2.2.2 m' q h'.1 h'.2.1)
  · exact q
  · exact absurd h.2.2.1 (h'.2.2.2 m q h.1 h.2.1)
theorem lrel_five {n b k v : Nat} (h5 : c n = 5) (hs : (stk c n).head? = some b) : Lrel c (n + 1) k v ↔ if k = b then v = n else Lrel c n k v := by
  constructor
  · intro h
    by_cases q : k = b
    · subst q
      rw [if_pos rfl]
      rcases Nat.lt_or_ge v n with z | z
      · exact absurd hs (h.2.2.2 n z (Nat.lt_succ_self n) h5)
      · have := h.1; omega
    · rw [if_neg q]
      refine ⟨?_, h.2.1, h.2.2.1, fun m' a1 a2 => h.2.2.2 m' a1 (Nat.lt_succ_of_lt a2)⟩
      rcases Nat.lt_or_ge v n with z | z
      · exact z
      · have e : v = n := by have := h.1; omega
        subst e
        have := h.2.2.1
        rw [hs] at this
        exact absurd (Option.some.inj this).symm q
  · intro h
    by_cases q : k = b
    · subst q
      rw [if_pos rfl] at h
      subst h
      exact ⟨Nat.lt_succ_self _, h5, hs, fun m' a1 a2 => by omega⟩
    · rw [if_neg q] at h
      refine ⟨Nat.lt_succ_of_lt h.1, h.2.1, h.2.2.1, fun m' a1 a2 a3 => ?_⟩
      rcases Nat.lt_or_ge m' n with z | z
      · exact h.2.2.2 m' a1 z a3
      · have e : m' = n := by omega
        subst e
        rw [hs]
        exact fun z => q (Option.some.inj z).symm
theorem lrel_no {n b m : Nat} (h5 : ¬ (c n = 5 ∧ (stk c n).head? = some b)) : Lrel c (n + 1) b m ↔ Lrel c n b m := by
  constructor
  · intro h
    refine ⟨?_, h.2.1, h.2.2.1, fun m' a1 a2 => h.2.2.2 m' a1 (Nat.lt_succ_of_lt a2)⟩
    rcases Nat.lt_or_ge m n with z | z
    · exact z
    · have e : m = n := by have := h.1; omega
      subst e
      exact absurd ⟨h.2.1, h.2.2.1⟩ h5
  · intro h
    refine ⟨Nat.lt_succ_of_lt h.1, h.2.1, h.2.2.1, fun m' a1 a2 a3 => ?_⟩
    rcases Nat.lt_or_ge m' n with z | z
    · exact h.2.2.2 m' a1 z a3
    · have e : m' = n := by omega
      subst e
      exact fun q => h5 ⟨a3, q⟩
theorem lrel_start {b m : Nat} : ¬ Lrel c (b + 1) b m := fun h => by
  have := (stk_lt (head_mem h.2.2.1)).1
  have := h.1
  omega
theorem erel_no {n k v : Nat} (h : ¬ (c n = 11 ∧ stk c n ≠ [])) : Erel c (n + 1) k v ↔ Erel c n k v := by
  constructor
  · rintro ⟨h1, h2⟩
    refine ⟨?_, h2⟩
    rcases Nat.lt_or_ge v n with z | z
    · exact z
    · have e : v = n := by omega
      subst e
      exfalso
      rcases h2 with q | ⟨b, _, q⟩
      · exact h ⟨q.1, fun z => by have := q.2; rw [z] at this; cases this⟩
      · exact h ⟨q.1, fun z => by have := q.2; rw [z] at this; cases this⟩
  · rintro ⟨h1, h2⟩
    exact ⟨Nat.lt_succ_of_lt h1, h2⟩
theorem erel_key {n b v : Nat} (hp : Pop c b n) : ¬ Erel c n b v := by
  rintro ⟨h1, h2 | ⟨b', h2, h3⟩⟩
  · exact absurd (pop_one h2 hp) (Nat.ne_of_lt h1)
  · exact not_blk5 h2.2.1 (pop_blk hp).2
theorem erel_mid {n b m v : Nat} (hp : Pop c b n) (hl : Lrel c n b m) : ¬ Erel c n m v := by
  rintro ⟨h1, h2 | ⟨b', h2, h3⟩⟩
  · exact not_blk5 hl.2.1 (pop_blk h2).2
  · have : b = b' := Option.some.inj (hl.2.2.1.symm.trans h2.2.2.1)
    subst this
    exact absurd (pop_one h3 hp) (Nat.ne_of_lt h1)
/-- an end that ends b, which has no else -/
theorem erel_end0 {n b k v : Nat} (hp : Pop c b n) (hl : ∀ m, ¬ Lrel c n b m) : Erel c (n + 1) k v ↔ if k = b then v = n else Erel c n k v := by
  by_cases q : k = b
  · subst q
    rw [if_pos rfl]
    constructor
    · rintro ⟨h1, h2⟩
      rcases Nat.lt_or_ge v n with z | z
      · exact absurd ⟨z, h2⟩ (erel_key hp)
      · omega
    · rintro rfl
      exact ⟨Nat.lt_succ_self _, .inl hp⟩
  · rw [if_neg q]
    constructor
    · rintro ⟨h1, h2⟩
      rcases Nat.lt_or_ge v n with z | z
      · exact ⟨z, h2⟩
      · have e : v = n := by omega
        subst e
        exfalso
        rcases h2 with z | ⟨b', z1, z2⟩
        · exact q (Option.some.inj (z.2.symm.trans hp.2))
        · have : b' = b := Option.some.inj (z2.2.symm.trans hp.2)
          subst this
          exact hl _ z1
    · rintro ⟨h1, h2⟩
      exact ⟨Nat.lt_succ_of_lt h1, h2⟩
/-- an end that ends b with the else m -/
theorem erel_end1 {n b m k v : Nat} (hp : Pop c b n) (hl : Lrel c n b m) : Erel c (n + 1) k v ↔ if k = m then v = n else if k = b then v = n else Erel c n k v := by
  by_cases q : k = m
  · subst q
    rw [if_pos rfl]
    constructor
    · rintro ⟨h1, h2⟩
      rcases Nat.lt_or_ge v n with z | z
      · exact absurd ⟨z, h2⟩ (erel_mid hp hl)
      · omega
    · rintro rfl
      exact ⟨Nat.lt_succ_self _, .inr ⟨b, hl, hp⟩⟩
  · rw [if_neg q]
    by_cases q : k = b
    · subst q
      rw [if_pos rfl]
      constructor
      · rintro ⟨h1, h2⟩
        rcases Nat.lt_or_ge v n with z | z
        · exact absurd ⟨z, h2⟩ (erel_key hp)
        · omega
      · rintro rfl
        exact ⟨Nat.lt_succ_self _, .inl hp⟩
    · rw [if_neg q]
      constructor
      · rintro ⟨h1, h2⟩
        rcases Nat.lt_or_ge v n with z | z
        · exact ⟨z, h2⟩
        · have e : v = n := by omega
          subst e
          exfalso
          rcases h2 with z | ⟨b', z1, z2⟩
          · exact q (Option.some.inj (z.2.symm.trans hp.2))
          · have : b' = b := Option.some.inj (z2.2.symm.trans hp.2)
            subst this
            exact absurd (lrel_one z1 hl) (by assumption)
      · rintro ⟨h1, h2⟩
        exact ⟨Nat.lt_succ_of_lt h1, h2⟩
theorem drel_no {n k v : Nat} (h : ¬ blk (c n)) : Drel c (n + 1) k v ↔ Drel c n k v := by
  constructor
  · rintro ⟨b, h1, h2, h3⟩
    refine ⟨b, ?_, h2, h3⟩
    rcases Nat.lt_or_ge b n with z | z
    · exact z
    · have e : b = n := by omega
      subst e
      exact absurd (pop_blk h2).2 h
  · rintro ⟨b, h1, h2⟩
    exact ⟨b, Nat.lt_succ_of_lt h1, h2⟩
theorem mrel_no {n k v : Nat} (h : ¬ blk (c n)) : Mrel c (n + 1) k v ↔ Mrel c n k v := by
  constructor
  · rintro ⟨h1, u, h2, h3⟩
    refine ⟨?_, u, h2, h3⟩
    rcases Nat.lt_or_ge k n with z | z
    · exact z
    · have e : k = n := by omega
      subst e
      exact absurd (pop_blk h2).2 h
  · rintro ⟨h1, h2⟩
    exact ⟨Nat.lt_succ_of_lt h1, h2⟩
theorem drel_key {n p k v : Nat} (hp : Pop c n p) (hd : Drel c n k v) : k ≠ n := by
  rintro rfl
  obtain ⟨b, h1, h2, h3 | h3⟩ := hd
  · omega
  · exact not_blk5 h3.2.1 (pop_blk hp).2
theorem drel_mid {n p m k v : Nat} (hp : Pop c n p) (hl : Lrel c p n m) (hd : Drel c n k v) : k ≠ m := by
  rintro rfl
  obtain ⟨b, h1, h2, h3 | h3⟩ := hd
  · subst h3
    exact not_blk5 hl.2.1 (pop_blk h2).2
  · have : n = b := Option.some.inj (hl.2.2.1.symm.trans h3.2.2.1)
    omega
theorem drel0 {n p k v : Nat} (hp : Pop c n p) (hl : ∀ m, ¬ Lrel c p n m) : Drel c (n + 1) k v ↔ if k = n then v = p else Drel c n k v := by
  by_cases q : k = n
  · subst q
    rw [if_pos rfl]
    constructor
    · rintro ⟨b, h1, h2, h3⟩
      rcases Nat.lt_or_ge b k with z | z
      · exact absurd rfl (drel_key hp ⟨b, z, h2, h3⟩)
      · have e : b = k := by omega
        subst e
        exact pop_one h2 hp
    · rintro rfl
      exact ⟨k, Nat.lt_succ_self _, hp, .inl rfl⟩
  · rw [if_neg q]
    constructor
    · rintro ⟨b, h1, h2, h3⟩
      rcases Nat.lt_or_ge b n with z | z
      · exact ⟨b, z, h2, h3⟩
      · have e : b = n := by omega
        subst e
        rcases h3 with h3 | h3
        · exact absurd h3 q
        · have := pop_one h2 hp
          subst this
          exact absurd h3 (hl _)
    · rintro ⟨b, h1, h2⟩
      exact ⟨b, Nat.lt_succ_of_lt h1, h2⟩
theorem drel1 {n p m k v : Nat} (hp : Pop c n p) (hl : Lrel c p n m) : Drel c (n + 1) k v ↔ if k = m then v = p else if k = n then v = p else Drel c n k v := by
  by_cases q : k = m
  · subst q
    rw [if_pos rfl]
    constructor
    · rintro ⟨b, h1, h2, h3⟩
      rcases Nat.lt_or_ge b n with z | z
      · exact absurd rfl (drel_mid hp hl ⟨b, z, h2, h3⟩)
      · have e : b = n := by omega
        subst e
        exact pop_one h2 hp
    · rintro rfl
      exact ⟨n, Nat.lt_succ_self _, hp, .inr hl⟩
  · rw [if_neg q]
    by_cases q' : k = n
    · subst q'
      rw [if_pos rfl]
      constructor
      · rintro ⟨b, h1, h2, h3⟩
        rcases Nat.lt_or_ge b k with z | z
        · exact absurd rfl (drel_key hp ⟨b, z, h2, h3⟩)
        · have e : b = k := by omega
          subst e
          exact pop_one h2 hp
      · rintro rfl
        exact ⟨k, Nat.lt_succ_self _, hp, .inl rfl⟩
    · rw [if_neg q']
      constructor
      · rintro ⟨b, h1, h2, h3⟩
        rcases Nat.lt_or_ge b n with z | z
        · exact ⟨b, z, h2, h3⟩
        · have e : b = n := by omega
          subst e
          rcases h3 with h3 | h3
          · exact absurd h3 q'
          · have := pop_one h2 hp
            subst this
            exact absurd (lrel_one h3 hl) q
      · rintro ⟨b, h1, h2⟩
        exact ⟨b, Nat.lt_succ_of_lt h1, h2⟩
theorem mrel0 {n p k v : Nat} (hp : Pop c n p) (hl : ∀ m, ¬ Lrel c p n m) : Mrel c (n + 1) k v ↔ Mrel c n k v := by
  constructor
  · rintro ⟨h1, u, h2, h3⟩
    refine ⟨?_, u, h2, h3⟩
    rcases Nat.lt_or_ge k n with z | z
    · exact z
    · have e : k = n := by omega
      subst e
      have := pop_one h2 hp
      subst this
      exact absurd h3 (hl _)
  · rintro ⟨h1, h2⟩
    exact ⟨Nat.lt_succ_of_lt h1, h2⟩
theorem mrel1 {n p m k v : Nat} (hp : Pop c n p) (hl : Lrel c p n m) : Mrel c (n + 1) k v ↔ if k = n then v = m else Mrel c n k v := by
  by_cases q : k = n
  · subst q
    rw [if_pos rfl]
    constructor
    · rintro ⟨h1, u, h2, h3⟩
      have := pop_one h2 hp
      subst this
      exact lrel_one h3 hl
    · rintro rfl
      exact ⟨Nat.lt_succ_self _, p, hp, hl⟩
  · rw [if_neg q]
    constructor
    · rintro ⟨h1, h2⟩
      exact ⟨by omega, h2⟩
    · rintro ⟨h1, h2⟩
      exact ⟨Nat.lt_succ_of_lt h1, h2⟩
/-- once all are ended -/
theorem erel_drel {n k v : Nat} (h0 : ∀ m, n ≤ m → c m ≠ 11) : Erel c n k v ↔ Drel c n k v := by
  constructor
  · rintro ⟨h1, h2 | ⟨b, h2, h3⟩⟩
    · exact ⟨k, Nat.lt_trans (pop_blk h2).1 h1, h2, .inl rfl⟩
    · exact ⟨b, Nat.lt_trans (pop_blk h3).1 h1, h3, .inr h2⟩
  · rintro ⟨b, h1, h2, h3⟩
    refine ⟨?_, ?_⟩
    · rcases Nat.lt_or_ge v n with z | z
      · exact z
      · exact absurd h2.1 (h0 v z)
    · rcases h3 with rfl | h3
      · exact .inl h2
      · exact .inr ⟨b, h3, h2⟩
theorem stk_pop {b n : Nat} (hb : b ∈ stk c n) : ∀ k, b ∉ stk c (n + k) → ∃ v, n ≤ v ∧ v < n + k ∧ Pop c b v
  | 0, h => absurd hb h
  | k + 1, h => by
    by_cases q : b ∈ stk c (n + k)
    · refine ⟨n + k, by omega, by omega, ?_⟩
      rw [← Nat.add_assoc, stk] at h
      split at h
      · exact absurd (List.mem_cons_of_mem _ q) h
      · split at h
        · rename_i e
          refine ⟨e, ?_⟩
          generalize stk c (n + k) = l at q h
          cases l with
          | nil => cases q
          | cons x r =>
            rcases List.mem_cons.mp q with rfl | q
            · rfl
            · exact absurd q h
        · exact absurd q h
    · obtain ⟨v, h1, h2, h3⟩ := stk_pop hb k q
      exact ⟨v, h1, by omega, h3⟩
theorem lrel_mrel {n b m : Nat} (h0 : stk c n = []) : Lrel c n b m ↔ Mrel c n b m := by
  constructor
  · intro h
    have hb := head_mem h.2.2.1
    have hm : m + (n - m) = n := by have := h.1; omega
    obtain ⟨v, h1, h2, h3⟩ := stk_pop hb (n - m) (by rw [hm, h0]; exact List.not_mem_nil)
    have hv : m < v := by
      rcases Nat.lt_or_ge m v with z | z
      · exact z
      · have e : v = m := by omega
        subst e
        have := h3.1
        rw [h.2.1] at this
        cases this
    exact ⟨Nat.lt_trans (stk_lt hb).1 h.1, v, h3, hv, h.2.1, h.2.2.1, fun m' a1 a2 => h.2.2.2 m' a1 (by omega)⟩
  · rintro ⟨h1, v, h2, h3⟩
    have hv : v < n := by
      rcases Nat.lt_or_ge v n with z | z
      · exact z
      · have h4 := stk_gone (c := c) h1 (by rw [h0]; exact List.not_mem_nil) (v - n)
        rw [Nat.add_sub_cancel' z] at h4
        exact absurd (head_mem h2.2) h4
    refine ⟨Nat.lt_trans h3.1 hv, h3.2.1, h3.2.2.1, fun m' a1 a2 a3 a4 => ?_⟩
    rcases Nat.lt_trichotomy m' v with z | z | z
    · exact h3.2.2.2 m' a1 z a3 a4
    · subst z
      have := h2.1
      rw [a3] at this
      cases this
    · exact pop_gone h2 z (head_mem a4)
end
end Mine

namespace Mine
theorem nodup_sub_le {α : Type} [DecidableEq α] : ∀ {l k : List α}, l.Nodup → (∀ x ∈ l, x ∈ k) → l.length ≤ k.length
  | [], _, _, _ => Nat.zero_le _
  | x :: l, k, hn, h => by
    have hx := h x (List.mem_cons_self ..)
    have e := List.length_erase_of_mem hx
    have ih := nodup_sub_le (k := k.erase x) (List.nodup_cons.mp hn).2 fun y hy => by
      refine (List.mem_erase_of_ne ?_).mpr (h y (List.mem_cons_of_mem _ hy))
      rintro rfl
      exact (List.nodup_cons.mp hn).1 hy
    have : 0 < k.length := List.length_pos_of_mem hx
    simp only [List.length_cons]
    omega
theorem updI_len : ∀ {ks : List Int} {vs : List V} {i : Int} {x : V}, ks.length = vs.length → (updI ks vs i x).length = vs.length
  | [], [], _, _, _ => rfl
  | k :: ks, v :: vs, i, x, h => by
    simp only [updI, List.length_cons]
    rw [updI_len (by simpa using h)]
theorem lookI_upd : ∀ {ks : List Int} {vs : List V} {i : Int} {x : V} (k : Int), ks.length = vs.length → i ∈ ks → lookI ks (updI ks vs i x) k = if k = i then some x else lookI ks vs k
  | [], _, _, _, _, _, hi => absurd hi List.not_mem_nil
  | j :: ks, v :: vs, i, x, k, h, hi => by
    simp only [updI, lookI]
    by_cases q : j = i
    · subst q
      simp only [if_true]
      by_cases q2 : j = k
      · subst q2; simp
      · rw [if_neg q2, if_neg (fun z => q2 z.symm), if_neg q2]
        by_cases q3 : j ∈ ks
        · rw [lookI_upd k (by simpa using h) q3, if_neg (fun z => q2 z.symm)]
        · have : ∀ (ks : List Int) (vs : List V), j ∉ ks → lookI ks (updI ks vs j x) k = lookI ks vs k := by
            intro ks
            induction ks with
            | nil => intro vs _; cases vs <;> rfl
            | cons a ks ih =>
              intro vs hn
              cases vs with
              | nil => rfl
              | cons u us =>
                have h1 : a ≠ j := fun z => hn (z ▸ List.mem_cons_self ..)
                simp only [updI, lookI, if_neg h1]
                rw [ih us (fun z => hn (List.mem_cons_of_mem _ z))]
          exact this ks vs q3
    · have hi' : i ∈ ks := by
        rcases List.mem_cons.mp hi with z | z
        · exact absurd z.symm q
        · exact z
      rw [if_neg q]
      by_cases q2 : j = k
      · subst q2
        rw [if_pos rfl, if_pos rfl, if_neg q]
      · rw [if_neg q2, if_neg q2]
        exact lookI_upd k (by simpa using h) hi'
theorem lookI_app : ∀ {ks : List Int} {vs : List V} {i : Int} {x : V} (k : Int), ks.length = vs.length → i ∉ ks → lookI (ks ++ [i]) (vs ++ [x]) k = if k = i then some x else lookI ks vs k
  | [], [], i, x, k, _, _ => by
    simp only [List.nil_append, lookI]
    by_cases q : k = i
    · subst q; simp
    · rw [if_neg q, if_neg (fun z => q z.symm)]
  | j :: ks, v :: vs, i, x, k, h, hi => by
    simp only [List.cons_append, lookI]
    have h1 : j ≠ i := fun z => hi (z ▸ List.mem_cons_self ..)
    by_cases q2 : j = k
    · subst q2
      rw [if_pos rfl, if_neg h1, if_pos rfl]
    · rw [if_neg q2, if_neg q2]
      exact lookI_app k (by simpa using h) fun z => hi (List.mem_cons_of_mem _ z)
theorem lookI_put {ks : List Int} {vs : List V} {i : Int} {x : V} (k : Int) (h : ks.length = vs.length) : lookI (putI ks vs i x).1 (putI ks vs i x).2 k = if k = i then some x else lookI ks vs k := by
  unfold putI
  split
  · rename_i q; exact lookI_upd k h q
  · rename_i q; exact lookI_app k h q
theorem mem_updI : ∀ {ks : List Int} {vs : List V} {i : Int} {x y : V}, y ∈ updI ks vs i x → y = x ∨ y ∈ vs
  | [], _, _, _, _, h => by simp [updI] at h
  | k :: ks, [], _, _, _, h => by simp [updI] at h
  | k :: ks, v :: vs, i, x, y, h => by
    simp only [updI] at h
    rcases List.mem_cons.mp h with h | h
    · split at h
      · exact .inl h
      · exact .inr (h ▸ List.mem_cons_self ..)
    · rcases mem_updI h with q | q
      · exact .inl q
      · exact .inr (List.mem_cons_of_mem _ q)
/-- a dict of places -/
structure DI (ks : List Int) (vs : List V) (n : Nat) (f : Nat → Nat → Prop) : Prop where
  nd : ks.Nodup
  len : ks.length = vs.length
  bd : ks.length ≤ n
  isI : ∀ v ∈ vs, ∃ i, v = .int i
  look : ∀ k v, lookI ks vs k = some v ↔ ∃ k' v' : Nat, k = (k' : Int) ∧ v = .int (v' : Int) ∧ f k' v'
theorem DI.nil {f : Nat → Nat → Prop} (h : ∀ k v, ¬ f k v) : DI [] [] 0 f := ⟨List.nodup_nil, rfl, Nat.le_refl _, fun _ h => absurd h List.not_mem_nil, fun k v => ⟨fun e => (by cases e), fun ⟨k', v', _, _, q⟩ => absurd q (h _ _)⟩⟩
theorem DI.iff {ks : List Int} {vs : List V} {n : Nat} {f g : Nat → Nat → Prop} (d : DI ks vs n f) (h : ∀ k v, g k v ↔ f k v) : DI ks vs n g :=
  ⟨d.nd, d.len, d.bd, d.isI, fun k v => (d.look k v).trans ⟨fun ⟨k', v', a, b, q⟩ => ⟨k', v', a, b, (h _ _).mpr q⟩, fun ⟨k', v', a, b, q⟩ => ⟨k', v', a, b, (h _ _).mp q⟩⟩⟩
theorem DI.mono {ks : List Int} {vs : List V} {n m : Nat} {f : Nat → Nat → Prop} (d : DI ks vs n f) (h : n ≤ m) : DI ks vs m f := ⟨d.nd, d.len, Nat.le_trans d.bd h, d.isI, d.look⟩
theorem DI.put {ks : List Int} {vs : List V} {n : Nat} {f g : Nat → Nat → Prop} (d : DI ks vs n f) {k v : Nat} (h : ∀ k' v', g k' v' ↔ if k' = k then v' = v else f k' v') : DI (putI ks vs k (.int v)).1 (putI ks vs k (.int v)).2 (n + 1) g := by
  have hlen : (putI ks vs k (.int v)).1.length = (putI ks vs k (.int v)).2.length ∧ (putI ks vs k (.int v)).1.length ≤ n + 1 ∧ (putI ks vs k (.int v)).1.Nodup := by
    unfold putI
    split
    · exact ⟨by rw [updI_len d.len]; exact d.len, Nat.le_succ_of_le d.bd, d.nd⟩
    · rename_i q
      refine ⟨by simp [d.len], by simp only [List.length_append, List.length_cons, List.length_nil]; have := d.bd; omega, ?_⟩
      rw [List.nodup_append]
      refine ⟨d.nd, by simp, fun a ha b hb => ?_⟩
      rw [List.mem_singleton.mp hb]
      rintro rfl
      exact q ha
  refine ⟨hlen.2.2, hlen.1, hlen.2.1, ?_, fun k' v' => ?_⟩
  · intro y hy
    unfold putI at hy
    split at hy
    · rcases mem_updI hy with q | q
      · exact ⟨_, q⟩
      · exact d.isI y q
    · rcases List.mem_append.mp hy with q | q
      · exact d.isI y q
      · exact ⟨_, List.mem_singleton.mp q⟩
  · rw [lookI_put k' d.len]
    constructor
    · intro e
      split at e
      · rename_i q
        cases e
        exact ⟨k, v, q, rfl, (h k v).mpr (by rw [if_pos rfl])⟩
      · rename_i q
        obtain ⟨a, b, h1, h2, h3⟩ := (d.look _ _).mp e
        refine ⟨a, b, h1, h2, (h a b).mpr ?_⟩
        rw [if_neg fun z => q (by rw [h1, z])]
        exact h3
    · rintro ⟨a, b, rfl, rfl, h3⟩
      have h3 := (h a b).mp h3
      split at h3
      · rename_i q
        subst q h3
        rw [if_pos rfl]
      · rename_i q
        rw [if_neg fun z => q (by omega)]
        exact (d.look _ _).mpr ⟨a, b, rfl, rfl, h3⟩
theorem lookI_mem : ∀ {ks : List Int} {vs : List V} {k : Int} {v : V}, lookI ks vs k = some v → k ∈ ks
  | [], vs, k, v, e => by cases vs <;> cases e
  | j :: ks, [], k, v, e => by cases e
  | j :: ks, u :: vs, k, v, e => by
    simp only [lookI] at e
    split at e
    · rename_i q; exact q ▸ List.mem_cons_self ..
    · exact List.mem_cons_of_mem _ (lookI_mem e)
theorem mem_lookI : ∀ {ks : List Int} {vs : List V} {k : Int}, ks.length = vs.length → k ∈ ks → ∃ v, lookI ks vs k = some v
  | [], vs, k, _, h => absurd h List.not_mem_nil
  | j :: ks, u :: vs, k, hl, h => by
    simp only [lookI]
    by_cases q : j = k
    · exact ⟨u, by rw [if_pos q]⟩
    · rcases List.mem_cons.mp h with z | z
      · exact absurd z.symm q
      · obtain ⟨v, e⟩ := mem_lookI (by simpa using hl) z
        exact ⟨v, by rw [if_neg q]; exact e⟩
theorem ints_of : ∀ {vs : List V}, (∀ v ∈ vs, ∃ i, v = .int i) → ∃ ns, intsV vs = some ns
  | [], _ => ⟨[], rfl⟩
  | v :: vs, h => by
    obtain ⟨i, rfl⟩ := h v (List.mem_cons_self ..)
    obtain ⟨ns, e⟩ := ints_of fun u hu => h u (List.mem_cons_of_mem _ hu)
    exact ⟨i :: ns, by rw [intsV, e]; rfl⟩
theorem zip_look : ∀ {ks : List Int} {vs : List V} {ns : List Int}, ks.Nodup → ks.length = vs.length → intsV vs = some ns → ∀ p ∈ ks.zip ns, lookI ks vs p.1 = some (.int p.2)
  | [], _, _, _, _, _, p, hp => by simp at hp
  | k :: ks, [], _, _, h, _, _, _ => by cases h
  | k :: ks, v :: vs, ns, hn, hl, e, p, hp => by
    cases v <;> simp only [intsV] at e <;> try (cases e; done)
    rename_i i
    obtain ⟨ms, h1, h2⟩ := Option.map_eq_some_iff.mp e
    subst h2
    rw [List.zip_cons_cons] at hp
    rcases List.mem_cons.mp hp with q | q
    · subst q
      simp [lookI]
    · have : k ≠ p.1 := by
        rintro rfl
        exact (List.nodup_cons.mp hn).1 (List.of_mem_zip q).1
      simp only [lookI, if_neg this]
      exact zip_look (List.nodup_cons.mp hn).2 (by simpa using hl) h1 p q
theorem DI.keys {ks : List Int} {vs : List V} {n : Nat} {f : Nat → Nat → Prop} (d : DI ks vs n f) {k : Int} : k ∈ ks ↔ ∃ k' v' : Nat, k = (k' : Int) ∧ f k' v' := by
  constructor
  · intro h
    obtain ⟨v, e⟩ := mem_lookI d.len h
    obtain ⟨k', v', h1, _, h3⟩ := (d.look _ _).mp e
    exact ⟨k', v', h1, h3⟩
  · rintro ⟨k', v', h1, h3⟩
    exact lookI_mem ((d.look _ _).mpr ⟨k', v', h1, rfl, h3⟩)
theorem DI.eq {ks js : List Int} {vs us : List V} {n m : Nat} {f g : Nat → Nat → Prop} (d : DI ks vs n f) (d' : DI js us m g) (h : ∀ k v, f k v ↔ g k v) : dEq ks vs js us = some true := by
  obtain ⟨ns, e1⟩ := ints_of d.isI
  obtain ⟨ms, e2⟩ := ints_of d'.isI
  have sub1 : ∀ k ∈ ks, k ∈ js := fun k hk => by
    obtain ⟨a, b, h1, h2⟩ := d.keys.mp hk
    exact d'.keys.mpr ⟨a, b, h1, (h _ _).mp h2⟩
  have sub2 : ∀ k ∈ js, k ∈ ks := fun k hk => by
    obtain ⟨a, b, h1, h2⟩ := d'.keys.mp hk
    exact d.keys.mpr ⟨a, b, h1, (h _ _).mpr h2⟩
  have hl : ks.length = js.length := Nat.le_antisymm (nodup_sub_le d.nd sub1) (nodup_sub_le d'.nd sub2)
  have ha : ((ks.zip ns).all fun p => match lookI js us p.1 with
      | some (.int i) => decide (p.2 = i)
      | _ => false) = true := by
    rw [List.all_eq_true]
    intro p hp
    have := zip_look d.nd d.len e1 p hp
    obtain ⟨a, b, h1, h2, h3⟩ := (d.look _ _).mp this
    have h4 := (d'.look p.1 (.int p.2)).mpr ⟨a, b, h1, h2, (h _ _).mp h3⟩
    rw [h4]
    simp
  unfold dEq
  rw [e1, e2]
  simp only [hl, BEq.rfl, Bool.true_and]
  exact congrArg some ha
theorem DI.has {ks : List Int} {vs : List V} {n : Nat} {f : Nat → Nat → Prop} (d : DI ks vs n f) {k v : Nat} (h : f k v) : lookI ks vs (k : Int) = some (.int v) := (d.look _ _).mpr ⟨k, v, rfl, rfl, h⟩
theorem DI.hasNot {ks : List Int} {vs : List V} {n : Nat} {f : Nat → Nat → Prop} (d : DI ks vs n f) {k : Nat} (h : ∀ v, ¬ f k v) : lookI ks vs (k : Int) = none := by
  cases e : lookI ks vs (k : Int) with
  | none => rfl
  | some v =>
    obtain ⟨a, b, h1, h2, h3⟩ := (d.look _ _).mp e
    have : k = a := by omega
    subst this
    exact absurd h3 (h b)
end Mine

namespace Mine
/-- parts of a body -/
noncomputable def sN : Ss → Nat → S
  | .cons s _, 0 => s
  | .cons _ l, n + 1 => sN l n
  | .nil, _ => .ret (.none 0 (P 0 0 0 0)) (P 0 0 0 0)
noncomputable def bodyOf : S → Ss
  | .fr _ _ b _ => b
  | .frE _ _ _ _ b _ => b
  | .frR _ _ _ _ b _ => b
  | .whl _ b _ => b
  | .ifs _ a _ _ => a
  | _ => .nil
noncomputable def elseOf : S → Ss
  | .ifs _ _ b _ => b
  | _ => .nil
noncomputable def condOf : S → E
  | .ifs c _ _ _ => c
  | .whl c _ _ => c
  | _ => .none 0 (P 0 0 0 0)
noncomputable def tgOf : S → Tg
  | .fr t _ _ _ => t
  | .frE t _ _ _ _ _ => t
  | .frR t _ _ _ _ _ => t
  | _ => .nm 0 (P 0 0 0 0)
theorem eqv_ints (a b : Int) : PyData.eqv (.int a) (.int b) = decide (a = b) := rfl
theorem cmpI_eq (a b : Int) : cmpB .Eq (.int a) (.int b) = some (decide (a = b)) := rfl
theorem okVs_app : ∀ {l k : List V} {d : Nat}, okVs (l ++ k) d = (okVs l d && okVs k d)
  | [], _, _ => by simp [okVs]
  | v :: l, k, d => by simp only [List.cons_append, okVs, okVs_app, Bool.and_assoc]
theorem okVs_ints : ∀ {l : List V} {d : Nat}, (∀ v ∈ l, ∃ i, v = .int i) → okVs l d = true
  | [], _, _ => rfl
  | v :: l, d, h => by
    obtain ⟨i, rfl⟩ := h v (List.mem_cons_self ..)
    have := okVs_ints (d := d) fun u hu => h u (List.mem_cons_of_mem _ hu)
    cases d <;> simp only [okVs, this, Bool.and_true] <;> rfl
theorem ne_nil {l : List V} (h : ∀ v ∈ l, ∃ i, v = .int i) : cmpB .NotEq (.lst l) (.lst []) = some (!l.isEmpty) := by
  have e : eqV (.lst l) (.lst []) = some l.isEmpty := by
    unfold eqV
    have h1 : okV (.lst l) 8 = true := okVs_ints h
    have h2 : okV (.lst []) 8 = true := rfl
    rw [h1, h2]
    show some (PyData.eqv (.list (toPs l)) (.list [])) = _
    cases l <;> rfl
  show (eqV (.lst l) (.lst [])).map (!·) = _
  rw [e]; rfl
theorem exs_nil {W : Wd} {σ : Sg} : exs W .nil σ = some (.nx σ) := rfl
theorem tv_and {W : Wd} {r : List (Option V)} {a b : E} {p : Pos} {x y : Bool} (h1 : tv W r a = some x) (h2 : x = true → tv W r b = some y) : tv W r (.bop .And a b p) = some (x && y) := by
  rw [tv, h1]
  cases x
  · rfl
  · show tv W r b = _
    rw [h2 rfl]; rfl
theorem tv_or {W : Wd} {r : List (Option V)} {a b : E} {p : Pos} {x y : Bool} (h1 : tv W r a = some x) (h2 : x = false → tv W r b = some y) : tv W r (.bop .Or a b p) = some (x || y) := by
  rw [tv, h1]
  cases x
  · show tv W r b = _
    rw [h2 rfl]; rfl
  · rfl
theorem tv_cmp {W : Wd} {r : List (Option V)} {a b : E} {op : CmpOp} {p : Pos} {x y : V} {z : Bool} (h1 : ev W r a = some x) (h2 : ev W r b = some y) (h3 : cmpB op x y = some z) : tv W r (.cmp a op b p) = some z := by
  rw [tv, h1, h2]; exact h3
theorem tv_call {W : Wd} {r : List (Option V)} {f : Nat} {l : Es} {p q : Pos} {xs : List V} {z : Bool} (h1 : evs W r l = some xs) (h2 : W.f f xs = some (.bool z)) : tv W r (.call f l p q) = some z := by
  rw [tv, h1]
  show asB (W.f f xs) = _
  rw [h2]; rfl
theorem ex_asg {W : Wd} {σ σ' : Sg} {i : Nat} {e : E} {p q : Pos} {v : V} (h1 : evA W σ e = some v) (h2 : storeF σ i v = some σ') : ex W (.asg i e p q) σ = some (.nx σ') := by
  rw [ex, h1]
  show (storeF σ i v).map _ = _
  rw [h2]; rfl
theorem evA_of {W : Wd} {σ : Sg} {e : E} {v : V} (h : ev W (frz σ) e = some v) : evA W σ e = some v := by
  unfold evA; rw [h]
theorem evA_full {W : Wd} {σ : Sg} {e : E} {v : V} (h1 : ev W (frz σ) e = none) (h : ev W (full σ) e = some v) (hf : flat v = true) : evA W σ e = some v := by
  unfold evA; rw [h1, h]
  show (if flat v = true then _ else _) = _
  rw [if_pos hf]
theorem ex_app {W : Wd} {σ : Sg} {i : Nat} {e : E} {pi pa pc p : Pos} {l : List V} {v : V} (hp : (pa.endLine == pc.line) = true) (h1 : getO σ i = some (.lst l)) (h2 : evA W σ e = some v) (h3 : l.length ≤ big) : ex W (.app i e pi pa pc p) σ = some (.nx (setOw σ i (.lst (l ++ [v])))) := by
  have h4 : appV (.lst l) v = some (.lst (l ++ [v])) := if_pos h3
  rw [ex, if_pos hp, h1, h2]
  show (match appV (.lst l) v with
    | some o => some (Oc.nx (setOw σ i o))
    | none => none) = _
  rw [h4]
theorem ex_set {W : Wd} {σ : Sg} {i : Nat} {ke ve : E} {pi ps p : Pos} {o o' k v : V} (h1 : evA W σ ve = some v) (h2 : getO σ i = some o) (h3 : evA W σ ke = some k) (h4 : setV o k v = some o') : ex W (.setI i ke ve pi ps p) σ = some (.nx (setOw σ i o')) := by
  rw [ex, h1, h2, h3]
  show (match setV o k v with
    | some o => some (Oc.nx (setOw σ i o))
    | none => none) = _
  rw [h4]
theorem setV_int {ks : List Int} {vs : List V} {i : Int} {x : V} (h : ks.length ≤ big) (h' : ks.length = vs.length) : setV (.dI ks vs) (.int i) x = some (.dI (putI ks vs i x).1 (putI ks vs i x).2) := if_pos ⟨h, h'⟩
theorem popV_last {l : List V} {x : V} (h : (l ++ [x]).length ≤ big) : popV (.lst (l ++ [x])) = some (x, .lst l) := by
  unfold popV
  simp only [if_pos h]
  have e : (l ++ [x])[(l ++ [x]).length - 1]? = some x := by simp
  rw [e]
  simp
theorem ex_asgPop {W : Wd} {σ σ' : Sg} {j i : Nat} {pj pi pa pc p : Pos} {l : List V} {x : V} (hp : (pa.endLine == pc.line) = true) (h1 : getO σ i = some (.lst (l ++ [x]))) (h2 : (l ++ [x]).length ≤ big) (h3 : storeF (setOw σ i (.lst l)) j x = some σ') : ex W (.asgPop j pj i pi pa pc p) σ = some (.nx σ') := by
  rw [ex, if_pos hp, h1]
  show (match popV (.lst (l ++ [x])) with
    | some (x, o) => (storeF (setOw σ i o) j x).map Oc.nx
    | none => none) = _
  rw [popV_last h2]
  show (storeF _ j x).map _ = _
  rw [h3]; rfl
theorem ex_pop {W : Wd} {σ : Sg} {i : Nat} {pi pa pc p : Pos} {l : List V} {x : V} (hp : (pa.endLine == pc.line) = true) (h1 : getO σ i = some (.lst (l ++ [x]))) (h2 : (l ++ [x]).length ≤ big) (h3 : flat x = true) : ex W (.pop i pi pa pc p) σ = some (.nx (setOw σ i (.lst l))) := by
  rw [ex, if_pos hp, h1]
  show (match popV (.lst (l ++ [x])) with
    | some (x, o) => if flat x then some (Oc.nx (setOw σ i o)) else none
    | none => none) = _
  rw [popV_last h2]
  show (if flat x = true then _ else _) = _
  rw [if_pos h3]
theorem subV_last {l : List V} {x : V} (h : (l ++ [x]).length ≤ big) : subV (.lst (l ++ [x])) (.int (-1)) = some x := by
  have : subV (.lst (l ++ [x])) (.int (-1)) = (l ++ [x])[(l ++ [x]).length - 1]? := by
    unfold subV
    simp only [h, and_true, if_true]
    rw [if_neg (by decide)]
  rw [this]
  simp
theorem ev_sub {W : Wd} {r : List (Option V)} {a i : E} {p : Pos} {x y z : V} (h1 : ev W r a = some x) (h2 : ev W r i = some y) (h3 : subV x y = some z) : ev W r (.sub a i p) = some z := by
  rw [ev, h1, h2]; exact h3
end Mine

namespace Mine
noncomputable def uf (u : Sl) : Prop := u = .un ∨ ∃ v, u = .fr v
theorem uf_fr {v : V} : uf (.fr v) := .inr ⟨v, rfl⟩
theorem uf_un : uf .un := .inl rfl
theorem storeF_uf {σ : Sg} {i : Nat} {u : Sl} {v : V} (h : σ[i]? = some u) (hu : uf u) : storeF σ i v = some (σ.set i (.fr v)) := by
  unfold storeF
  rw [h]
  rcases hu with rfl | ⟨_, rfl⟩ <;> rfl
theorem ev_glo {W : Wd} {r : List (Option V)} {g : Nat} {p : Pos} {v : V} (h : W.g g = some v) : ev W r (.glo g p) = some v := h
noncomputable def ol (s : List Nat) : List V := s.reverse.map fun (k : Nat) => V.int (k : Int)
theorem ol_cons (b : Nat) (r : List Nat) : ol (b :: r) = ol r ++ [.int b] := by simp [ol]
theorem ol_ints (s : List Nat) : ∀ v ∈ ol s, ∃ i, v = .int i := fun v h => by
  obtain ⟨k, _, e⟩ := List.mem_map.mp h
  exact ⟨_, e.symm⟩
theorem ol_len (s : List Nat) : (ol s).length = s.length := by simp [ol]
theorem ol_empty (s : List Nat) : (ol s).isEmpty = s.isEmpty := by
  cases s with
  | nil => rfl
  | cons b r => rw [ol_cons]; cases ol r <;> rfl
structure M6 (W : Wd) : Prop where
  hb : ∀ x, W.f 4 [.int x] = some (.bool (decide (blk x)))
  g11 : W.g 11 = some (.int 5)
  g12 : W.g 12 = some (.int 11)
  b2 : W.b 2 = true
noncomputable def lb6 : Ss := bodyOf (sN bd6 1)
noncomputable def tg6 : Tg := tgOf (sN bd6 1)
noncomputable abbrev st6 (B e l o u4 u5 : V) (u6 u7 : Sl) : Sg := [.fr B, .ow e, .ow l, .ow o, .fr u4, .fr u5, u6, u7]
section
variable {W : Wd} (M : M6 W) {B : List V} {E L : List Int} {ve vl r : List V} {s : List Nat} {n : Nat} {c : Int} {u6 u7 : Sl} (h6 : uf u6) (h7 : uf u7)
include M h6 h7
set_option linter.unusedSectionVars false
theorem m_code (l : Ss) (e : V) : exs W (.cons (sN lb6 0) l) (st6 (.lst B) (.dI E ve) (.dI L vl) e (.int n) (.tup (.int c :: r)) u6 u7) = exs W l (st6 (.lst B) (.dI E ve) (.dI L vl) e (.int n) (.tup (.int c :: r)) (.fr (.int c)) u7) :=
  exs_nx (ex_asg (v := .int c) (evA_of (ev_sub (x := .tup (.int c :: r)) (y := .int 0) rfl rfl rfl)) ((storeF_uf (u := u6) rfl h6).trans rfl))
/-- a block begins -/
theorem m_blk (hc : blk c) (hl : s.length ≤ 1000) : exs W lb6 (st6 (.lst B) (.dI E ve) (.dI L vl) (.lst (ol s)) (.int n) (.tup (.int c :: r)) u6 u7) = some (.nx (st6 (.lst B) (.dI E ve) (.dI L vl) (.lst (ol (n :: s))) (.int n) (.tup (.int c :: r)) (.fr (.int c)) u7)) := by
  refine (m_code M h6 h7 _ _).trans ?_
  refine (exs_nx ((ex_if_t (tv_call (xs := [.int c]) rfl ((M.hb c).trans (by simp [hc])))).trans ?_)).trans exs_nil
  refine (exs_nx (ex_app (v := .int n) rfl rfl (evA_of rfl) (by rw [ol_len]; unfold big; omega))).trans ?_
  rw [ol_cons]; rfl
theorem m_else {b : Nat} (hc : c = 5) (hl : s.length ≤ 1000) (hL : L.length ≤ big) (hL' : L.length = vl.length) : exs W lb6 (st6 (.lst B) (.dI E ve) (.dI L vl) (.lst (ol (b :: s))) (.int n) (.tup (.int c :: r)) u6 u7) = some (.nx (st6 (.lst B) (.dI E ve) (.dI (putI L vl b (.int n)).1 (putI L vl b (.int n)).2) (.lst (ol (b :: s))) (.int n) (.tup (.int c :: r)) (.fr (.int c)) u7)) := by
  have hn : ¬ blk c := not_blk5 hc
  subst hc
  refine (m_code M h6 h7 _ _).trans ?_
  refine (exs_nx ((ex_if_f (tv_call (xs := [.int 5]) rfl ((M.hb 5).trans (by simp [hn])))).trans ?_)).trans exs_nil
  refine (exs_nx ((ex_if_t (tv_cmp (x := .int 5) (y := .int 5) rfl (ev_glo M.g11) rfl)).trans ?_)).trans exs_nil
  rw [ol_cons]
  refine (exs_nx (ex_set (o := .dI L vl) (k := .int b) (v := .int n) (evA_of rfl) rfl ?_ (setV_int hL hL'))).trans rfl
  refine evA_full rfl (ev_sub (x := .lst (ol s ++ [.int b])) (y := .int (-1)) rfl rfl (subV_last ?_)) rfl
  rw [List.length_append, ol_len]; show s.length + 1 ≤ big; unfold big; omega
theorem m_no (h1 : ¬ blk c) (h2 : c ≠ 5) (h3 : ¬ (c = 11 ∧ s ≠ [])) : exs W lb6 (st6 (.lst B) (.dI E ve) (.dI L vl) (.lst (ol s)) (.int n) (.tup (.int c :: r)) u6 u7) = some (.nx (st6 (.lst B) (.dI E ve) (.dI L vl) (.lst (ol s)) (.int n) (.tup (.int c :: r)) (.fr (.int c)) u7)) := by
  refine (m_code M h6 h7 _ _).trans ?_
  refine (exs_nx ((ex_if_f (tv_call (xs := [.int c]) rfl ((M.hb c).trans (by simp [h1])))).trans ?_)).trans exs_nil
  refine (exs_nx ((ex_if_f (tv_cmp (x := .int c) (y := .int 5) rfl (ev_glo M.g11) ((cmpI_eq c 5).trans (by simp [h2])))).trans ?_)).trans exs_nil
  refine (exs_nx ((ex_if_f ((tv_and (tv_cmp (x := .int c) (y := .int 11) rfl (ev_glo M.g12) (cmpI_eq c 11)) fun _ => tv_cmp (x := .lst (ol s)) (y := .lst []) rfl rfl (ne_nil (ol_ints s))).trans ?_)).trans exs_nil)).trans exs_nil
  rw [ol_empty]
  by_cases q : c = 11
  · have : s = [] := by
      cases s with
      | nil => rfl
      | cons _ _ => exact absurd ⟨q, by simp⟩ h3
    subst this; simp
  · simp [q]
theorem m_end0 {b : Nat} (hc : c = 11) (hl : s.length ≤ 1000) (hE : E.length ≤ big) (hE' : E.length = ve.length) (hm : lookI L vl b = none) : exs W lb6 (st6 (.lst B) (.dI E ve) (.dI L vl) (.lst (ol (b :: s))) (.int n) (.tup (.int c :: r)) u6 u7) = some (.nx (st6 (.lst B) (.dI (putI E ve b (.int n)).1 (putI E ve b (.int n)).2) (.dI L vl) (.lst (ol s)) (.int n) (.tup (.int c :: r)) (.fr (.int c)) (.fr (.int b)))) := by
  have hn : ¬ blk c := not_blk11 hc
  subst hc
  have hlen : (ol s ++ [V.int b]).length ≤ big := by
    rw [List.length_append, ol_len]; show s.length + 1 ≤ big; unfold big; omega
  refine (m_code M h6 h7 _ _).trans ?_
  refine (exs_nx ((ex_if_f (tv_call (xs := [.int 11]) rfl ((M.hb 11).trans (by simp [hn])))).trans ?_)).trans exs_nil
  refine (exs_nx ((ex_if_f (tv_cmp (x := .int 11) (y := .int 5) rfl (ev_glo M.g11) rfl)).trans ?_)).trans exs_nil
  refine (exs_nx ((ex_if_t (tv_and (x := true) (y := true) (tv_cmp (x := .int 11) (y := .int 11) rfl (ev_glo M.g12) rfl) fun _ => tv_cmp (x := .lst (ol (b :: s))) (y := .lst []) rfl rfl ((ne_nil (ol_ints _)).trans (by rw [ol_empty]; rfl)))).trans ?_)).trans exs_nil
  rw [ol_cons]
  refine (exs_nx (ex_asgPop (σ' := st6 (.lst B) (.dI E ve) (.dI L vl) (.lst (ol s)) (.int n) (.tup (.int 11 :: r)) (.fr (.int 11)) (.fr (.int b))) rfl rfl hlen ((storeF_uf (u := u7) rfl h7).trans rfl))).trans ?_
  refine (exs_nx (ex_set (o := .dI E ve) (k := .int b) (v := .int n) (evA_of rfl) rfl (evA_of rfl) (setV_int hE hE'))).trans ?_
  refine (exs_nx ((ex_if_f (tv_cmp (x := .int b) (y := .dI L vl) rfl rfl ?_)).trans exs_nil)).trans exs_nil
  show some (lookI L vl (b : Int)).isSome = _
  rw [hm]; rfl
theorem m_end1 {b m : Nat} (hc : c = 11) (hl : s.length ≤ 1000) (hE : E.length < big) (hE' : E.length = ve.length) (hm : lookI L vl b = some (.int m))
    (hE1 : (putI E ve b (.int n)).1.length ≤ big) (hE2 : (putI E ve b (.int n)).1.length = (putI E ve b (.int n)).2.length) : exs W lb6 (st6 (.lst B) (.dI E ve) (.dI L vl) (.lst (ol (b :: s))) (.int n) (.tup (.int c :: r)) u6 u7) = some (.nx (st6 (.lst B) (.dI (putI (putI E ve b (.int n)).1 (putI E ve b (.int n)).2 m (.int n)).1 (putI (putI E ve b (.int n)).1 (putI E ve b (.int n)).2 m (.int n)).2) (.dI L vl) (.lst (ol s)) (.int n) (.tup (.int c :: r)) (.fr (.int c)) (.fr (.int b)))) := by
  have hn : ¬ blk c := not_blk11 hc
  subst hc
  have hlen : (ol s ++ [V.int b]).length ≤ big := by
    rw [List.length_append, ol_len]; show s.length + 1 ≤ big; unfold big; omega
  refine (m_code M h6 h7 _ _).trans ?_
  refine (exs_nx ((ex_if_f (tv_call (xs := [.int 11]) rfl ((M.hb 11).trans (by simp [hn])))).trans ?_)).trans exs_nil
  refine (exs_nx ((ex_if_f (tv_cmp (x := .int 11) (y := .int 5) rfl (ev_glo M.g11) rfl)).trans ?_)).trans exs_nil
  refine (exs_nx ((ex_if_t (tv_and (x := true) (y := true) (tv_cmp (x := .int 11) (y := .int 11) rfl (ev_glo M.g12) rfl) fun _ => tv_cmp (x := .lst (ol (b :: s))) (y := .lst []) rfl rfl ((ne_nil (ol_ints _)).trans (by rw [ol_empty]; rfl)))).trans ?_)).trans exs_nil
  rw [ol_cons]
  refine (exs_nx (ex_asgPop (σ' := st6 (.lst B) (.dI E ve) (.dI L vl) (.lst (ol s)) (.int n) (.tup (.int 11 :: r)) (.fr (.int 11)) (.fr (.int b))) rfl rfl hlen ((storeF_uf (u := u7) rfl h7).trans rfl))).trans ?_
  refine (exs_nx (ex_set (o := .dI E ve) (k := .int b) (v := .int n) (evA_of rfl) rfl (evA_of rfl) (setV_int (Nat.le_of_lt hE) hE'))).trans ?_
  refine (exs_nx ((ex_if_t (tv_cmp (x := .int b) (y := .dI L vl) rfl rfl ?_)).trans ?_)).trans exs_nil
  · show some (lookI L vl (b : Int)).isSome = _
    rw [hm]; rfl
  · refine (exs_nx (ex_set (o := .dI (putI E ve b (.int n)).1 (putI E ve b (.int n)).2) (k := .int m) (v := .int n) (evA_of rfl) rfl ?_ (setV_int hE1 hE2))).trans rfl
    exact evA_full rfl (ev_sub (x := .dI L vl) (y := .int b) rfl rfl hm) rfl
end
end Mine

namespace Mine
noncomputable def cdF (B : List V) (n : Nat) : Int := match B[n]? with
  | some (.tup (.int c :: _)) => c
  | _ => 0
noncomputable def AllI (B : List V) : Prop := ∀ v ∈ B, ∃ c r, v = .tup (.int c :: r)
theorem cdF_at {B : List V} {n : Nat} {c : Int} {r : List V} (h : B[n]? = some (.tup (.int c :: r))) : cdF B n = c := by
  unfold cdF; rw [h]
theorem cdF_out {B : List V} {n : Nat} (h : B.length ≤ n) : cdF B n = 0 := by
  unfold cdF; rw [List.getElem?_eq_none h]
theorem AllI.get {B : List V} (h : AllI B) {n : Nat} (hn : n < B.length) : ∃ r, B[n]? = some (.tup (.int (cdF B n) :: r)) := by
  obtain ⟨c, r, e⟩ := h _ (List.getElem_mem hn)
  have e1 : B[n]? = some (.tup (.int c :: r)) := by rw [List.getElem?_eq_getElem hn, e]
  exact ⟨r, by rw [cdF_at e1]; exact e1⟩
theorem stk_len (c : Nat → Int) : ∀ n, (stk c n).length ≤ n
  | 0 => Nat.le_refl _
  | n + 1 => by
    have ih := stk_len c n
    rw [stk]
    split
    · simp only [List.length_cons]; omega
    · split
      · rw [List.length_tail]; omega
      · omega
theorem loopV_cons {t : Tg} {body : Sg → Option Oc} {v : V} {l : List V} {σ σ1 σ2 : Sg} (h1 : storeG σ t v = some σ1) (h2 : body σ1 = some (.nx σ2)) : loopV t body (v :: l) σ = loopV t body l σ2 := by
  rw [loopV, h1]
  show (match body σ1 with
    | some (.nx σ) => loopV t body l σ
    | some (.rt v) => some (.rt v)
    | none => none) = _
  rw [h2]
theorem storeT2 {σ : Sg} {i j : Nat} {u w : Sl} {a b : V} (hi : σ[i]? = some u) (hu : uf u) (hj : (σ.set i (.fr a))[j]? = some w) (hw : uf w) : storeT σ [i, j] [a, b] = some ((σ.set i (.fr a)).set j (.fr b)) := by
  rw [storeT, storeF_uf hi hu]
  show storeT (σ.set i (.fr a)) [j] [b] = _
  rw [storeT, storeF_uf hj hw]
  rfl
theorem m_loop {W : Wd} (M : M6 W) {B : List V} (hB : AllI B) (hN : B.length ≤ 1000) (h5 : ∀ m, m < B.length → cdF B m = 5 → stk (cdF B) m ≠ []) : ∀ (l : List V) (n : Nat) (E L : List Int) (ve vl : List V) (u4 u5 u6 u7 : Sl), l = B.drop n → n ≤ B.length → DI E ve (2 * n) (Erel (cdF B) n) → DI L vl n (Lrel (cdF B) n) → uf u4 → uf u5 → uf u6 → uf u7 →
    ∃ E' L' ve' vl' o' v4 v5 v6 v7, loopV tg6 (exs W lb6) (numd n l) [.fr (.lst B), .ow (.dI E ve), .ow (.dI L vl), .ow (.lst (ol (stk (cdF B) n))), u4, u5, u6, u7] = some (.nx [.fr (.lst B), .ow (.dI E' ve'), .ow (.dI L' vl'), .ow o', v4, v5, v6, v7]) ∧ DI E' ve' (2 * B.length) (Erel (cdF B) B.length) ∧ DI L' vl' B.length (Lrel (cdF B) B.length)
  | [], n, E, L, ve, vl, u4, u5, u6, u7, hl, hn, dE, dL, _, _, _, _ => by
    have : n = B.length := by
      have := congrArg List.length hl
      rw [List.length_drop] at this
      simp only [List.length_nil] at this
      omega
    subst this
    exact ⟨E, L, ve, vl, _, u4, u5, u6, u7, rfl, dE, dL⟩
  | v :: l, n, E, L, ve, vl, u4, u5, u6, u7, hl, hn, dE, dL, h4, h5', h6, h7 => by
    have hlt : n < B.length := by
      rcases Nat.lt_or_ge n B.length with q | q
      · exact q
      · rw [List.drop_eq_nil_of_le q] at hl; cases hl
    obtain ⟨r, hr⟩ := hB.get hlt
    have hv : v = .tup (.int (cdF B n) :: r) ∧ l = B.drop (n + 1) := by
      rw [List.drop_eq_getElem_cons hlt] at hl
      rw [List.getElem?_eq_getElem hlt] at hr
      cases hl
      exact ⟨Option.some.inj hr, rfl⟩
    obtain ⟨rfl, hl'⟩ := hv
    have hs : (stk (cdF B) n).length ≤ 1000 := Nat.le_trans (stk_len _ n) (by omega)
    have st : storeG [.fr (.lst B), .ow (.dI E ve), .ow (.dI L vl), .ow (.lst (ol (stk (cdF B) n))), u4, u5, u6, u7] tg6 (.tup [.int n, .tup (.int (cdF B n) :: r)]) = some (st6 (.lst B) (.dI E ve) (.dI L vl) (.lst (ol (stk (cdF B) n))) (.int n) (.tup (.int (cdF B n) :: r)) u6 u7) :=
      (storeT2 (u := u4) (w := u5) rfl h4 rfl h5').trans rfl
    have bE := dE.bd
    have bL := dL.bd
    have bigE : E.length ≤ big := by unfold big; omega
    have bigL : L.length ≤ big := by unfold big; omega
    have go : ∀ (E1 L1 : List Int) (ve1 vl1 : List V) (w6 w7 : Sl), exs W lb6 (st6 (.lst B) (.dI E ve) (.dI L vl) (.lst (ol (stk (cdF B) n))) (.int n) (.tup (.int (cdF B n) :: r)) u6 u7) = some (.nx (st6 (.lst B) (.dI E1 ve1) (.dI L1 vl1) (.lst (ol (stk (cdF B) (n + 1)))) (.int n) (.tup (.int (cdF B n) :: r)) w6 w7)) → DI E1 ve1 (2 * (n + 1)) (Erel (cdF B) (n + 1)) → DI L1 vl1 (n + 1) (Lrel (cdF B) (n + 1)) → uf w6 → uf w7 → ∃ E' L' ve' vl' o' v4 v5 v6 v7, loopV tg6 (exs W lb6) (numd n (.tup (.int (cdF B n) :: r) :: l)) [.fr (.lst B), .ow (.dI E ve), .ow (.dI L vl), .ow (.lst (ol (stk (cdF B) n))), u4, u5, u6, u7] = some (.nx [.fr (.lst B), .ow (.dI E' ve'), .ow (.dI L' vl'), .ow o', v4, v5, v6, v7]) ∧ DI E' ve' (2 * B.length) (Erel (cdF B) B.length) ∧ DI L' vl' B.length (Lrel (cdF B) B.length) := by
      intro E1 L1 ve1 vl1 w6 w7 e dE1 dL1 h6 h7
      obtain ⟨E', L', ve', vl', o', v4, v5, v6, v7, e2, d1, d2⟩ := m_loop M hB hN h5 l (n + 1) E1 L1 ve1 vl1 (.fr (.int n)) (.fr (.tup (.int (cdF B n) :: r))) w6 w7 hl' hlt dE1 dL1 uf_fr uf_fr h6 h7
      exact ⟨E', L', ve', vl', o', v4, v5, v6, v7, (loopV_cons st e).trans e2, d1, d2⟩
    by_cases hb : blk (cdF B n)
    · have e := m_blk M h6 h7 (B := B) (E := E) (L := L) (ve := ve) (vl := vl) (r := r) (s := stk (cdF B) n) (n := n) hb hs
      have n11 : cdF B n ≠ 11 := fun q => not_blk11 q hb
      have n5 : cdF B n ≠ 5 := fun q => not_blk5 q hb
      rw [← stk_blk hb] at e
      exact go _ _ _ _ _ _ e ((dE.iff fun k v => erel_no (fun q => n11 q.1)).mono (by omega)) ((dL.iff fun k v => lrel_no (fun q => n5 q.1)).mono (by omega)) uf_fr h7
    · by_cases c5 : cdF B n = 5
      · have hne := h5 n hlt c5
        obtain ⟨b, s, hbs⟩ : ∃ b s, stk (cdF B) n = b :: s := by
          cases h : stk (cdF B) n with
          | nil => exact absurd h hne
          | cons b s => exact ⟨b, s, rfl⟩
        have n11 : cdF B n ≠ 11 := by rw [c5]; decide
        have sl : s.length ≤ 1000 := by rw [hbs] at hs; simp only [List.length_cons] at hs; omega
        have e := m_else M h6 h7 (B := B) (E := E) (L := L) (ve := ve) (vl := vl) (r := r) (s := s) (n := n) (b := b) c5 sl bigL dL.len
        rw [← hbs] at e
        rw [← stk_no hb n11] at e
        rw [stk_no hb n11] at e
        have go' := go E (putI L vl b (.int n)).1 ve (putI L vl b (.int n)).2 (.fr (.int (cdF B n))) u7
        rw [stk_no hb n11] at go'
        refine go' e ((dE.iff fun k v => erel_no (fun q => n11 q.1)).mono (by omega)) (dL.put fun k v => lrel_five c5 (by rw [hbs]; rfl)) uf_fr h7
      · by_cases c11 : cdF B n = 11 ∧ stk (cdF B) n ≠ []
        · obtain ⟨b, s, hbs⟩ : ∃ b s, stk (cdF B) n = b :: s := by
            cases h : stk (cdF B) n with
            | nil => exact absurd h c11.2
            | cons b s => exact ⟨b, s, rfl⟩
          have sl : s.length ≤ 1000 := by rw [hbs] at hs; simp only [List.length_cons] at hs; omega
          have hp : Pop (cdF B) b n := ⟨c11.1, by rw [hbs]; rfl⟩
          have hse : stk (cdF B) (n + 1) = s := by rw [stk_end c11.1, hbs]; rfl
          by_cases hm : ∃ m, Lrel (cdF B) n b m
          · obtain ⟨m, hm⟩ := hm
            have d1 := dE.put (k := b) (v := n) (g := fun k v => if k = b then v = n else Erel (cdF B) n k v) fun _ _ => Iff.rfl
            have e := m_end1 M h6 h7 (B := B) (E := E) (L := L) (ve := ve) (vl := vl) (r := r) (s := s) (n := n) (b := b) (m := m) c11.1 sl (by unfold big; omega) dE.len (dL.has hm) (by have := d1.bd; unfold big; omega) d1.len
            rw [← hbs] at e
            have go' := go _ _ _ _ _ _ (by rw [hse]; exact e)
            refine go' ((d1.put (k := m) (v := n) fun k v => erel_end1 hp hm).mono (by omega)) ((dL.iff fun k v => lrel_no (fun q => c5 q.1)).mono (by omega)) uf_fr uf_fr
          · have e := m_end0 M h6 h7 (B := B) (E := E) (L := L) (ve := ve) (vl := vl) (r := r) (s := s) (n := n) (b := b) c11.1 sl bigE dE.len (dL.hasNot fun v hv => hm ⟨v, hv⟩)
            rw [← hbs] at e
            have go' := go _ _ _ _ _ _ (by rw [hse]; exact e)
            refine go' ((dE.put (k := b) (v := n) fun k v => erel_end0 hp fun m hv => hm ⟨m, hv⟩).mono (by omega)) ((dL.iff fun k v => lrel_no (fun q => c5 q.1)).mono (by omega)) uf_fr uf_fr
        · have e := m_no M h6 h7 (B := B) (E := E) (L := L) (ve := ve) (vl := vl) (r := r) (s := stk (cdF B) n) (n := n) hb c5 c11
          have hse : stk (cdF B) (n + 1) = stk (cdF B) n := by
            by_cases q : cdF B n = 11
            · have : stk (cdF B) n = [] := by
                cases h : stk (cdF B) n with
                | nil => rfl
                | cons b s => exact absurd ⟨q, by rw [h]; simp⟩ c11
              rw [stk_end q, this]; rfl
            · exact stk_no hb q
          have go' := go _ _ _ _ _ _ (by rw [hse]; exact e)
          exact go' ((dE.iff fun k v => erel_no c11).mono (by omega)) ((dL.iff fun k v => lrel_no (fun q => c5 q.1)).mono (by omega)) uf_fr h7
theorem ex_frE {W : Wd} {t : Tg} {e : E} {pf pc p : Pos} {b : Ss} {σ : Sg} {l : List V} (he : evA W σ e = some (.lst l)) (ht : isTg2 t = true) (hb : W.b 2 = true) : ex W (.frE t e pf pc b p) σ = loopV t (exs W b) (numd 0 l) σ := by
  rw [ex, he]
  show (if (isTg2 t && W.b 2) = true then _ else _) = _
  rw [ht, hb]; rfl
theorem matches_run {W : Wd} (M : M6 (cut W fd6)) {B : List V} (hB : AllI B) (hN : B.length ≤ 1000) (h5 : ∀ m, m < B.length → cdF B m = 5 → stk (cdF B) m ≠ []) :
    ∃ E L ve vl, runB W fd6 [.lst B] = some (.tup [.dI E ve, .dI L vl]) ∧ DI E ve (2 * B.length) (Erel (cdF B) B.length) ∧ DI L vl B.length (Lrel (cdF B) B.length) := by
  obtain ⟨E', L', ve', vl', o', v4, v5, v6, v7, e2, d1, d2⟩ := m_loop M hB hN h5 B 0 [] [] [] [] .un .un .un .un rfl (Nat.zero_le _) (DI.nil fun k v h => absurd h.1 (Nat.not_lt_zero _)) (DI.nil fun k v h => absurd h.1 (Nat.not_lt_zero _)) uf_un uf_un uf_un uf_un
  refine ⟨E', L', ve', vl', runB_of rfl ?_, d1, d2⟩
  show exs (cut W fd6) bd6 [.fr (.lst B), .un, .un, .un, .un, .un, .un, .un] = _
  refine (exs_nx (σ' := [.fr (.lst B), .ow (.dI [] []), .ow (.dI [] []), .ow (.lst []), .un, .un, .un, .un]) rfl).trans ?_
  refine (exs_nx ((ex_frE (l := B) (evA_of rfl) rfl M.b2).trans e2)).trans ?_
  exact exs_rt rfl
end Mine

namespace Mine
theorem in234 (c : Int) : cmpB .In (.int c) (.lst [.int 2, .int 3, .int 4]) = some (decide (blk c)) := by
  show some (decide ((2 : Int) = c) || (decide ((3 : Int) = c) || (decide ((4 : Int) = c) || false))) = _
  congr 1
  unfold blk
  by_cases q1 : c = 2
  · subst q1; rfl
  · by_cases q2 : c = 3
    · subst q2; rfl
    · by_cases q3 : c = 4
      · subst q3; rfl
      · simp [q1, q2, q3, Ne.symm q1, Ne.symm q2, Ne.symm q3]
theorem subV_nat {B : List V} {p : Nat} (h : p < 1000000) : subV (.lst B) (.int (p : Int)) = B[p]? := by
  unfold subV
  simp only [Int.toNat_natCast]
  rw [if_pos ⟨Int.natCast_nonneg p, by omega⟩]
theorem ex_aug {W : Wd} {σ σ' : Sg} {i : Nat} {e : E} {px p : Pos} {a b : Int} (h1 : locV (frz σ) i = some (.int a)) (h2 : evA W σ e = some (.int b)) (h3 : storeF σ i (.int (a + b)) = some σ') : ex W (.aug i .Add e px p) σ = some (.nx σ') := by
  rw [ex, h1]
  simp only [h2, h3, Option.map_some]
theorem ex_augS {W : Wd} {σ σ' : Sg} {i : Nat} {e : E} {px p : Pos} {a b : Int} (h1 : locV (frz σ) i = some (.int a)) (h2 : evA W σ e = some (.int b)) (h3 : storeF σ i (.int (a - b)) = some σ') : ex W (.aug i .Sub e px p) σ = some (.nx σ') := by
  rw [ex, h1]
  simp only [h2, h3, Option.map_some]
noncomputable def mid : Option Nat → Int
  | some j => (j : Int)
  | none => -1
noncomputable def lb19 : Ss := bodyOf (sN bd19 1)
noncomputable def wb19 : Ss := bodyOf (sN (bodyOf (sN lb19 0)) 1)
noncomputable def wc19 : E := condOf (sN (bodyOf (sN lb19 0)) 1)
noncomputable abbrev st19 (B e l a p d m : V) (u7 : Sl) : Sg := [.fr B, .ow e, .ow l, .fr a, .fr p, .fr d, .fr m, u7]
section
variable {W : Wd} {B : List V} {e l a m : V} {p d : Nat} {c : Int} {r : List V} {u7 : Sl} (h7 : uf u7)
include h7
set_option linter.unusedSectionVars false
theorem w_head (ls : Ss) (hp : p < 1000) (hB : B[p + 1]? = some (.tup (.int c :: r))) : exs W (.cons (sN wb19 0) (.cons (sN wb19 1) ls)) (st19 (.lst B) e l a (.int p) (.int d) m u7) = exs W ls (st19 (.lst B) e l a (.int (p + 1 : Nat)) (.int d) m (.fr (.int c))) := by
  refine (exs_nx (ex_aug (a := p) (b := 1) rfl (evA_of rfl) rfl)).trans ?_
  refine exs_nx (ex_asg (v := .int c) (evA_of (ev_sub (x := .tup (.int c :: r)) (y := .int 0) (ev_sub (x := .lst B) (y := .int (p + 1 : Nat)) rfl rfl ((subV_nat (by omega)).trans hB)) rfl rfl)) ((storeF_uf (u := u7) rfl h7).trans rfl))
theorem w_blk (hp : p < 1000) (hB : B[p + 1]? = some (.tup (.int c :: r))) (hc : blk c) : exs W wb19 (st19 (.lst B) e l a (.int p) (.int d) m u7) = some (.nx (st19 (.lst B) e l a (.int (p + 1 : Nat)) (.int (d + 1 : Nat)) m (.fr (.int c)))) := by
  refine (w_head h7 _ hp hB).trans ?_
  refine (exs_nx ((ex_if_t (tv_cmp (x := .int c) (y := .lst [.int 2, .int 3, .int 4]) rfl rfl ((in234 c).trans (by simp [hc])))).trans ?_)).trans exs_nil
  exact (exs_nx (ex_aug (a := d) (b := 1) rfl (evA_of rfl) rfl)).trans exs_nil
theorem w_end (hp : p < 1000) (hB : B[p + 1]? = some (.tup (.int c :: r))) (hc : c = 11) : exs W wb19 (st19 (.lst B) e l a (.int p) (.int (d + 1 : Nat)) m u7) = some (.nx (st19 (.lst B) e l a (.int (p + 1 : Nat)) (.int (d : Nat)) m (.fr (.int c)))) := by
  have hn : ¬ blk c := not_blk11 hc
  refine (w_head h7 _ hp hB).trans ?_
  refine (exs_nx ((ex_if_f (tv_cmp (x := .int c) (y := .lst [.int 2, .int 3, .int 4]) rfl rfl ((in234 c).trans (by simp [hn])))).trans ?_)).trans exs_nil
  refine (exs_nx ((ex_if_t (tv_cmp (x := .int c) (y := .int 11) rfl rfl ((cmpI_eq c 11).trans (by simp [hc])))).trans ?_)).trans exs_nil
  refine (exs_nx (ex_augS (a := (d + 1 : Nat)) (b := 1) rfl (evA_of rfl) ?_)).trans exs_nil
  have : ((d + 1 : Nat) : Int) - 1 = (d : Int) := by omega
  rw [this]; rfl
theorem w_else (hp : p < 1000) (hB : B[p + 1]? = some (.tup (.int c :: r))) (hc : c = 5) (hd : d = 1) : exs W wb19 (st19 (.lst B) e l a (.int p) (.int d) m u7) = some (.nx (st19 (.lst B) e l a (.int (p + 1 : Nat)) (.int d) (.int (p + 1 : Nat)) (.fr (.int c)))) := by
  have hn : ¬ blk c := not_blk5 hc
  refine (w_head h7 _ hp hB).trans ?_
  refine (exs_nx ((ex_if_f (tv_cmp (x := .int c) (y := .lst [.int 2, .int 3, .int 4]) rfl rfl ((in234 c).trans (by simp [hn])))).trans ?_)).trans exs_nil
  refine (exs_nx ((ex_if_f (tv_cmp (x := .int c) (y := .int 11) rfl rfl ((cmpI_eq c 11).trans (by simp [hc])))).trans ?_)).trans exs_nil
  refine (exs_nx ((ex_if_t (tv_and (x := true) (y := true) (tv_cmp (x := .int c) (y := .int 5) rfl rfl ((cmpI_eq c 5).trans (by simp [hc]))) fun _ => tv_cmp (x := .int d) (y := .int 1) rfl rfl ((cmpI_eq d 1).trans (by simp [hd])))).trans ?_)).trans exs_nil
  exact (exs_nx (ex_asg (v := .int (p + 1 : Nat)) (evA_of rfl) rfl)).trans exs_nil
theorem w_no (hp : p < 1000) (hB : B[p + 1]? = some (.tup (.int c :: r))) (hn : ¬ blk c) (h11 : c ≠ 11) (hc : ¬ (c = 5 ∧ d = 1)) : exs W wb19 (st19 (.lst B) e l a (.int p) (.int d) m u7) = some (.nx (st19 (.lst B) e l a (.int (p + 1 : Nat)) (.int d) m (.fr (.int c)))) := by
  refine (w_head h7 _ hp hB).trans ?_
  refine (exs_nx ((ex_if_f (tv_cmp (x := .int c) (y := .lst [.int 2, .int 3, .int 4]) rfl rfl ((in234 c).trans (by simp [hn])))).trans ?_)).trans exs_nil
  refine (exs_nx ((ex_if_f (tv_cmp (x := .int c) (y := .int 11) rfl rfl ((cmpI_eq c 11).trans (by simp [h11])))).trans ?_)).trans exs_nil
  refine (exs_nx ((ex_if_f ((tv_and (tv_cmp (x := .int c) (y := .int 5) rfl rfl (cmpI_eq c 5)) fun _ => tv_cmp (x := .int d) (y := .int 1) rfl rfl (cmpI_eq d 1)).trans ?_)).trans exs_nil)).trans exs_nil
  by_cases q : c = 5
  · have : ¬ ((d : Int) = 1) := fun z => hc ⟨q, by omega⟩
    simp [this]
  · simp [q]
end
theorem loopW_t {c : Sg → Option Bool} {body : Sg → Option Oc} {n : Nat} {σ σ' : Sg} (h1 : c σ = some true) (h2 : body σ = some (.nx σ')) : loopW c body (n + 1) σ = loopW c body n σ' := by
  rw [loopW, h1]
  show (match body σ with
    | some (.nx σ) => loopW c body n σ
    | some (.rt v) => some (.rt v)
    | none => none) = _
  rw [h2]
theorem loopW_f {c : Sg → Option Bool} {body : Sg → Option Oc} {n : Nat} {σ : Sg} (h1 : c σ = some false) : loopW c body (n + 1) σ = some (.nx σ) := by
  rw [loopW, h1]
theorem wc_val {W : Wd} {B e l a p m : V} {d : Nat} {u7 : Sl} : tv W (full (st19 B e l a p (.int d) m u7)) wc19 = some (decide ((d : Int) > 0)) := rfl
/-- the walk to a block's end -/
theorem w_loop {W : Wd} {B : List V} (hB : AllI B) (hN : B.length ≤ 900) (h0 : stk (cdF B) B.length = []) {e l : V} {b : Nat} : ∀ (f p : Nat) (pre : List Nat) (o : Option Nat) (u7 : Sl), uf u7 → B.length - p + 1 ≤ f → p < B.length → stk (cdF B) (p + 1) = pre ++ b :: stk (cdF B) b → (∀ j, Lrel (cdF B) (p + 1) b j ↔ o = some j) →
    ∃ q o' v7, loopW (fun σ => tv W (full σ) wc19) (exs W wb19) f (st19 (.lst B) e l (.int b) (.int p) (.int (pre.length + 1 : Nat)) (.int (mid o)) u7) = some (.nx (st19 (.lst B) e l (.int b) (.int (q : Nat)) (.int 0) (.int (mid o')) v7)) ∧ Pop (cdF B) b q ∧ (∀ j, Lrel (cdF B) q b j ↔ o' = some j) ∧ uf v7
  | 0, p, _, _, _, _, hf, _, _, _ => by omega
  | f + 1, p, pre, o, u7, h7, hf, hp, hs, hm => by
    have hq : p + 1 < B.length := by
      rcases Nat.lt_or_ge (p + 1) B.length with z | z
      · exact z
      · have : p + 1 = B.length := by omega
        rw [this, h0] at hs
        cases pre <;> cases hs
    obtain ⟨r, hr⟩ := hB.get hq
    have hp' : p < 1000 := by omega
    have t : tv W (full (st19 (.lst B) e l (.int b) (.int p) (.int (pre.length + 1 : Nat)) (.int (mid o)) u7)) wc19 = some true := by
      rw [wc_val, decide_eq_true (by omega)]
    by_cases hb : blk (cdF B (p + 1))
    · obtain ⟨q, o', v7, e1, e2, e3, e4⟩ := w_loop hB hN h0 (e := e) (l := l) (b := b) f (p + 1) ((p + 1) :: pre) o (.fr (.int (cdF B (p + 1)))) uf_fr (by omega) hq (by rw [stk_blk hb, hs]; rfl) fun j => (lrel_no fun z => not_blk5 z.1 hb).trans (hm j)
      exact ⟨q, o', v7, (loopW_t t (w_blk h7 hp' hr hb)).trans e1, e2, e3, e4⟩
    · by_cases c11 : cdF B (p + 1) = 11
      · cases pre with
        | nil =>
          have e1 := w_end (W := W) (e := e) (l := l) (a := .int b) (m := .int (mid o)) (d := 0) h7 hp' hr c11
          refine ⟨p + 1, o, .fr (.int (cdF B (p + 1))), (loopW_t t e1).trans ?_, ⟨c11, by rw [hs]; rfl⟩, hm, uf_fr⟩
          cases f with
          | zero => omega
          | succ f => exact loopW_f wc_val
        | cons x pre =>
          obtain ⟨q, o', v7, e1, e2, e3, e4⟩ := w_loop hB hN h0 (e := e) (l := l) (b := b) f (p + 1) pre o (.fr (.int (cdF B (p + 1)))) uf_fr (by omega) hq (by rw [stk_end c11, hs]; rfl) fun j => (lrel_no fun z => by rw [c11] at z; exact absurd z.1 (by decide)).trans (hm j)
          exact ⟨q, o', v7, (loopW_t t (w_end (d := pre.length + 1) h7 hp' hr c11)).trans e1, e2, e3, e4⟩
      · have hs' := stk_no hb c11
        by_cases c5 : cdF B (p + 1) = 5 ∧ pre.length + 1 = 1
        · have : pre = [] := by cases pre with
            | nil => rfl
            | cons x y => have := c5.2; simp only [List.length_cons] at this; omega
          subst this
          obtain ⟨q, o', v7, e1, e2, e3, e4⟩ := w_loop hB hN h0 (e := e) (l := l) (b := b) f (p + 1) [] (some (p + 1)) (.fr (.int (cdF B (p + 1)))) uf_fr (by omega) hq (by rw [hs', hs]) fun j => (lrel_five c5.1 (by rw [hs]; rfl)).trans (by rw [if_pos rfl]; exact ⟨fun z => by rw [z], fun z => (Option.some.inj z).symm⟩)
          exact ⟨q, o', v7, (loopW_t t (w_else h7 hp' hr c5.1 rfl)).trans e1, e2, e3, e4⟩
        · obtain ⟨q, o', v7, e1, e2, e3, e4⟩ := w_loop hB hN h0 (e := e) (l := l) (b := b) f (p + 1) pre o (.fr (.int (cdF B (p + 1)))) uf_fr (by omega) hq (by rw [hs', hs]) fun j => (lrel_no fun z => by
            cases pre with
            | nil => exact c5 ⟨z.1, rfl⟩
            | cons x y =>
              have z2 := z.2
              have so := stk_sorted (c := cdF B) (p + 1)
              rw [hs] at z2 so
              have : x = b := Option.some.inj z2
              subst this
              exact absurd ((List.pairwise_cons.mp so).1 x (by simp)) (Nat.lt_irrefl _)).trans (hm j)
          exact ⟨q, o', v7, (loopW_t t (w_no h7 hp' hr hb c11 c5)).trans e1, e2, e3, e4⟩
end Mine

namespace Mine
theorem exs_one {W : Wd} {s : S} {σ : Sg} : exs W (.cons s .nil) σ = ex W s σ := by
  rw [exs]
  split <;> rename_i h
  · rw [h]; rfl
  · exact h.symm
  · exact h.symm
theorem ex_whl {W : Wd} {c : E} {b : Ss} {p : Pos} {σ : Sg} : ex W (.whl c b p) σ = loopW (fun σ => tv W (full σ) c) (exs W b) 1000 σ := rfl
theorem storeT3 {σ : Sg} {i j k : Nat} {u w z : Sl} {a b d : V} (hi : σ[i]? = some u) (hu : uf u) (hj : (σ.set i (.fr a))[j]? = some w) (hw : uf w) (hk : ((σ.set i (.fr a)).set j (.fr b))[k]? = some z) (hz : uf z) : storeT σ [i, j, k] [a, b, d] = some (((σ.set i (.fr a)).set j (.fr b)).set k (.fr d)) := by
  rw [storeT, storeF_uf hi hu]
  show storeT (σ.set i (.fr a)) [j, k] [b, d] = _
  exact storeT2 hj hw hk hz
theorem ex_asgX {W : Wd} {l : List (Nat × Pos)} {k : Nat} {tp p : Pos} {e : E} {σ σ' : Sg} {xs : List V} (h1 : evA W σ e = some (.tup xs)) (h2 : storeT σ (l.map (·.1)).reverse xs.reverse = some σ') : ex W (.asgX l k tp e p) σ = some (.nx σ') := by
  rw [ex, h1]
  show (storeT σ (l.map (·.1)).reverse xs.reverse).map _ = _
  rw [h2]; rfl
section
variable {W : Wd} {B : List V} {e l : V} {p : Nat} {c : Int} {r : List V} {u4 u5 u6 u7 : Sl} (h4 : uf u4) (h5 : uf u5) (h6 : uf u6) (h7 : uf u7)
include h4 h5 h6 h7
set_option linter.unusedSectionVars false
/-- no block at this place -/
theorem d_no (hp : p < 1000) (hB : B[p]? = some (.tup (.int c :: r))) (hc : ¬ blk c) : exs W lb19 [.fr (.lst B), .ow e, .ow l, .fr (.int p), u4, u5, u6, u7] = some (.nx [.fr (.lst B), .ow e, .ow l, .fr (.int p), u4, u5, u6, u7]) :=
  (exs_nx ((ex_if_f (tv_cmp (x := .int c) (y := .lst [.int 2, .int 3, .int 4]) (ev_sub (x := .tup (.int c :: r)) (y := .int 0) (ev_sub (x := .lst B) (y := .int p) rfl rfl ((subV_nat (by omega)).trans hB)) rfl rfl) rfl ((in234 c).trans (by simp [hc])))).trans exs_nil)).trans exs_nil
theorem d_blk {E L : List Int} {ve vl : List V} {q : Nat} {o : Option Nat} {v7 : Sl} (hp : p < 1000) (hB : B[p]? = some (.tup (.int c :: r))) (hc : blk c)
    (hw : loopW (fun σ => tv W (full σ) wc19) (exs W wb19) 1000 (st19 (.lst B) (.dI E ve) (.dI L vl) (.int p) (.int p) (.int 1) (.int (-1)) u7) = some (.nx (st19 (.lst B) (.dI E ve) (.dI L vl) (.int p) (.int q) (.int 0) (.int (mid o)) v7)))
    (hE : E.length ≤ big) (hE' : E.length = ve.length) : exs W lb19 [.fr (.lst B), .ow (.dI E ve), .ow (.dI L vl), .fr (.int p), u4, u5, u6, u7] =
      exs W (.cons (sN (bodyOf (sN lb19 0)) 3) .nil) (st19 (.lst B) (.dI (putI E ve p (.int q)).1 (putI E ve p (.int q)).2) (.dI L vl) (.int p) (.int q) (.int 0) (.int (mid o)) v7) := by
  have k : exs W (bodyOf (sN lb19 0)) [.fr (.lst B), .ow (.dI E ve), .ow (.dI L vl), .fr (.int p), u4, u5, u6, u7] = exs W (.cons (sN (bodyOf (sN lb19 0)) 3) .nil) (st19 (.lst B) (.dI (putI E ve p (.int q)).1 (putI E ve p (.int q)).2) (.dI L vl) (.int p) (.int q) (.int 0) (.int (mid o)) v7) := by
    refine (exs_nx (ex_asgX (xs := [.int p, .int 1, .int (-1)]) (σ' := st19 (.lst B) (.dI E ve) (.dI L vl) (.int p) (.int p) (.int 1) (.int (-1)) u7) (evA_of rfl) ((storeT3 (u := u6) (w := u5) (z := u4) rfl h6 rfl h5 rfl h4).trans rfl))).trans ?_
    refine (exs_nx (ex_whl.trans hw)).trans ?_
    exact (exs_nx (ex_set (o := .dI E ve) (k := .int p) (v := .int q) (evA_of rfl) rfl (evA_of rfl) (setV_int hE hE')))
  have k2 : ex W (sN lb19 0) [.fr (.lst B), .ow (.dI E ve), .ow (.dI L vl), .fr (.int p), u4, u5, u6, u7] = exs W (bodyOf (sN lb19 0)) [.fr (.lst B), .ow (.dI E ve), .ow (.dI L vl), .fr (.int p), u4, u5, u6, u7] :=
    ex_if_t (tv_cmp (x := .int c) (y := .lst [.int 2, .int 3, .int 4]) (ev_sub (x := .tup (.int c :: r)) (y := .int 0) (ev_sub (x := .lst B) (y := .int p) rfl rfl ((subV_nat (by omega)).trans hB)) rfl rfl) rfl ((in234 c).trans (by simp [hc])))
  exact exs_one.trans (k2.trans k)
end
theorem d_tail0 {W : Wd} {B e l a p d : V} {u7 : Sl} : exs W (.cons (sN (bodyOf (sN lb19 0)) 3) .nil) (st19 B e l a p d (.int (mid none)) u7) = some (.nx (st19 B e l a p d (.int (mid none)) u7)) := rfl
theorem d_tail1 {W : Wd} {B d : V} {E L : List Int} {ve vl : List V} {a q m : Nat} {u7 : Sl} (hE : E.length ≤ big) (hE' : E.length = ve.length) (hL : L.length ≤ big) (hL' : L.length = vl.length) : exs W (.cons (sN (bodyOf (sN lb19 0)) 3) .nil) (st19 B (.dI E ve) (.dI L vl) (.int a) (.int q) d (.int (mid (some m))) u7) = some (.nx (st19 B (.dI (putI E ve m (.int q)).1 (putI E ve m (.int q)).2) (.dI (putI L vl a (.int m)).1 (putI L vl a (.int m)).2) (.int a) (.int q) d (.int (mid (some m))) u7)) := by
  refine (exs_nx ((ex_if_t (tv_cmp (x := .int m) (y := .int 0) rfl rfl ?_)).trans ?_)).trans exs_nil
  · show some (decide ((m : Int) ≥ 0)) = _
    rw [decide_eq_true (by omega)]
  · refine (exs_nx (ex_set (o := .dI L vl) (k := .int a) (v := .int m) (evA_of rfl) rfl (evA_of rfl) (setV_int hL hL'))).trans ?_
    exact (exs_nx (ex_set (o := .dI E ve) (k := .int m) (v := .int q) (evA_of rfl) rfl (evA_of rfl) (setV_int hE hE'))).trans exs_nil
noncomputable def rngV (n : Nat) : List V := (List.range n).map fun (k : Nat) => V.int (k : Int)
theorem d_loop {W : Wd} {B : List V} (hB : AllI B) (hN : B.length ≤ 900) (h0 : stk (cdF B) B.length = []) : ∀ (l : List V) (n : Nat) (E L : List Int) (ve vl : List V) (u3 u4 u5 u6 u7 : Sl), l = (rngV B.length).drop n → n ≤ B.length → DI E ve (2 * n) (Drel (cdF B) n) → DI L vl n (Mrel (cdF B) n) → uf u3 → uf u4 → uf u5 → uf u6 → uf u7 →
    ∃ E' L' ve' vl' v3 v4 v5 v6 v7, loopV (tgOf (sN bd19 1)) (exs W lb19) l [.fr (.lst B), .ow (.dI E ve), .ow (.dI L vl), u3, u4, u5, u6, u7] = some (.nx [.fr (.lst B), .ow (.dI E' ve'), .ow (.dI L' vl'), v3, v4, v5, v6, v7]) ∧ DI E' ve' (2 * B.length) (Drel (cdF B) B.length) ∧ DI L' vl' B.length (Mrel (cdF B) B.length)
  | [], n, E, L, ve, vl, u3, u4, u5, u6, u7, hl, hn, dE, dL, _, _, _, _, _ => by
    have : n = B.length := by
      have := congrArg List.length hl
      rw [List.length_drop] at this
      simp only [List.length_nil, rngV, List.length_map, List.length_range] at this
      omega
    subst this
    exact ⟨E, L, ve, vl, u3, u4, u5, u6, u7, rfl, dE, dL⟩
  | v :: l, n, E, L, ve, vl, u3, u4, u5, u6, u7, hl, hn, dE, dL, h3, h4, h5, h6, h7 => by
    have hlr : (rngV B.length).length = B.length := by simp [rngV]
    have hlt : n < B.length := by
      rcases Nat.lt_or_ge n B.length with q | q
      · exact q
      · rw [List.drop_eq_nil_of_le (by omega)] at hl; cases hl
    have hv : v = .int (n : Int) ∧ l = (rngV B.length).drop (n + 1) := by
      rw [List.drop_eq_getElem_cons (by omega)] at hl
      cases hl
      refine ⟨?_, rfl⟩
      simp [rngV]
    obtain ⟨rfl, hl'⟩ := hv
    have st : storeG [.fr (.lst B), .ow (.dI E ve), .ow (.dI L vl), u3, u4, u5, u6, u7] (tgOf (sN bd19 1)) (.int n) = some [.fr (.lst B), .ow (.dI E ve), .ow (.dI L vl), .fr (.int n), u4, u5, u6, u7] := (storeF_uf (u := u3) rfl h3).trans rfl
    have hp : n < 1000 := by omega
    have bE := dE.bd
    have bL := dL.bd
    have bigE : E.length ≤ big := by unfold big; omega
    have bigL : L.length ≤ big := by unfold big; omega
    obtain ⟨r, hr⟩ := hB.get hlt
    by_cases hb : blk (cdF B n)
    · obtain ⟨q, o', v7, e1, e2, e3, e4⟩ := w_loop (W := W) hB hN h0 (e := .dI E ve) (l := .dI L vl) (b := n) 1000 n [] none u7 h7 (by omega) hlt (by rw [stk_blk hb]; rfl) fun j => ⟨fun z => absurd z lrel_start, fun z => by cases z⟩
      have e5 := d_blk h4 h5 h6 h7 (W := W) hp hr hb (L := L) (vl := vl) e1 bigE dE.len
      cases o' with
      | none =>
        obtain ⟨E', L', ve', vl', v3, v4, v5, v6, v7', e6, d1, d2⟩ := d_loop (W := W) hB hN h0 l (n + 1) _ L _ vl (.fr (.int n)) (.fr (.int q)) (.fr (.int 0)) (.fr (.int (mid none))) v7 hl' hlt ((dE.put (k := n) (v := q) fun k v => drel0 e2 fun m hm => nomatch (e3 m).mp hm).mono (by omega)) ((dL.iff fun k v => mrel0 e2 fun m hm => nomatch (e3 m).mp hm).mono (by omega)) uf_fr uf_fr uf_fr uf_fr e4
        exact ⟨E', L', ve', vl', v3, v4, v5, v6, v7', (loopV_cons st (e5.trans d_tail0)).trans e6, d1, d2⟩
      | some m =>
        have hm := (e3 m).mpr rfl
        have f1 := dE.put (k := n) (v := q) (g := fun k v => if k = n then v = q else Drel (cdF B) n k v) fun _ _ => Iff.rfl
        have b1 := f1.bd
        obtain ⟨E', L', ve', vl', v3, v4, v5, v6, v7', e6, d1, d2⟩ := d_loop (W := W) hB hN h0 l (n + 1) _ _ _ _ (.fr (.int n)) (.fr (.int q)) (.fr (.int 0)) (.fr (.int (mid (some m)))) v7 hl' hlt ((f1.put (k := m) (v := q) fun k v => drel1 e2 hm).mono (by omega)) (dL.put (k := n) (v := m) fun k v => mrel1 e2 hm) uf_fr uf_fr uf_fr uf_fr e4
        exact ⟨E', L', ve', vl', v3, v4, v5, v6, v7', (loopV_cons st (e5.trans (d_tail1 (by unfold big; omega) f1.len bigL dL.len))).trans e6, d1, d2⟩
    · obtain ⟨E', L', ve', vl', v3, v4, v5, v6, v7', e6, d1, d2⟩ := d_loop (W := W) hB hN h0 l (n + 1) E L ve vl (.fr (.int n)) u4 u5 u6 u7 hl' hlt ((dE.iff fun k v => drel_no hb).mono (by omega)) ((dL.iff fun k v => mrel_no hb).mono (by omega)) uf_fr h4 h5 h6 h7
      exact ⟨E', L', ve', vl', v3, v4, v5, v6, v7', (loopV_cons st (d_no h4 h5 h6 h7 hp hr hb)).trans e6, d1, d2⟩
theorem ex_frR {W : Wd} {t : Tg} {e : E} {pf pc p : Pos} {b : Ss} {σ : Sg} {n : Nat} (he : evA W σ e = some (.int n)) (ht : isTg2 t = false) (hb : W.b 3 = true) (hn : n ≤ 1000) : ex W (.frR t e pf pc b p) σ = loopV t (exs W b) (rngV n) σ := by
  rw [ex, he]
  simp only [Int.toNat_natCast]
  rw [if_pos ⟨Int.natCast_nonneg n, by omega, hb, ht⟩]
  rfl
theorem due_run {W : Wd} (h3 : W.b 3 = true) (hb : W.b 0 = true) {B : List V} (hB : AllI B) (hN : B.length ≤ 900) (h0 : stk (cdF B) B.length = []) :
    ∃ E L ve vl, runB W fd19 [.lst B] = some (.tup [.dI E ve, .dI L vl]) ∧ DI E ve (2 * B.length) (Drel (cdF B) B.length) ∧ DI L vl B.length (Mrel (cdF B) B.length) := by
  obtain ⟨E', L', ve', vl', v3, v4, v5, v6, v7, e2, d1, d2⟩ := d_loop (W := cut W fd19) hB hN h0 (rngV B.length) 0 [] [] [] [] .un .un .un .un .un rfl (Nat.zero_le _) (DI.nil fun k v ⟨_, h, _⟩ => absurd h (Nat.not_lt_zero _)) (DI.nil fun k v h => absurd h.1 (Nat.not_lt_zero _)) uf_un uf_un uf_un uf_un uf_un
  refine ⟨E', L', ve', vl', runB_of rfl ?_, d1, d2⟩
  show exs (cut W fd19) bd19 [.fr (.lst B), .un, .un, .un, .un, .un, .un, .un] = _
  refine (exs_nx (σ' := [.fr (.lst B), .ow (.dI [] []), .ow (.dI [] []), .un, .un, .un, .un, .un]) rfl).trans ?_
  have b0 : (cut W fd19).b 0 = true := by
    show (fd19.bs.contains 0 && W.b 0) = true
    rw [hb]; rfl
  have b3 : (cut W fd19).b 3 = true := by
    show (fd19.bs.contains 3 && W.b 3) = true
    rw [h3]; rfl
  refine (exs_nx ((ex_frR (n := B.length) (evA_of ?_) rfl b3 (by omega)).trans e2)).trans ?_
  · show (if (cut W fd19).b 0 = true then lenV (.lst B) else none) = _
    rw [b0, if_pos rfl]
    show (if B.length ≤ big then _ else _) = _
    rw [if_pos (by unfold big; omega)]
  · exact exs_rt rfl
/-- matches and due give the same -/
theorem same_run {W : Wd} (M : M6 (cut W fd6)) (h3 : W.b 3 = true) (hb : W.b 0 = true) {B : List V} (hB : AllI B) (hN : B.length ≤ 900) (h0 : stk (cdF B) B.length = []) (h5 : ∀ m, m < B.length → cdF B m = 5 → stk (cdF B) m ≠ []) :
    ∃ x y, runB W fd6 [.lst B] = some x ∧ runB W fd19 [.lst B] = some y ∧ cmpB .NotEq x y = some false := by
  obtain ⟨E, L, ve, vl, e1, d1, d2⟩ := matches_run M hB (by omega) h5
  obtain ⟨E', L', ve', vl', e3, d3, d4⟩ := due_run h3 hb hB hN h0
  refine ⟨_, _, e1, e3, ?_⟩
  have n11 : ∀ m, B.length ≤ m → cdF B m ≠ 11 := fun m hm => by rw [cdF_out hm]; decide
  have q1 := d1.eq d3 fun k v => erel_drel n11
  have q2 := d2.eq d4 fun k v => lrel_mrel h0
  show (match dEq E ve E' ve', dEq L vl L' vl' with
      | some a, some b => some (!(a && b))
      | _, _ => none) = _
  rw [q1, q2]; rfl
end Mine

namespace Mine
noncomputable abbrev plainC (c : Int) : Prop := ¬ blk c ∧ c ≠ 5 ∧ c ≠ 11
theorem lst_at {l : List V} {i : Int} {n : Nat} (h0 : 0 ≤ i) (h1 : i < n) (hl : l.length = n) (hn : n ≤ 1000) : ∃ h : i.toNat < l.length, subV (.lst l) (.int i) = some l[i.toNat] := by
  have h : i.toNat < l.length := by omega
  refine ⟨h, ?_⟩
  unfold subV
  simp only []
  rw [if_pos ⟨h0, by omega⟩, List.getElem?_eq_getElem h]
theorem subV_all {P : V → Prop} {l : List V} {i : Int} {n : Nat} (h0 : 0 ≤ i) (h1 : i < n) (hl : l.length = n) (hn : n ≤ 1000) (h : ∀ v ∈ l, P v) : ∃ v, subV (.lst l) (.int i) = some v ∧ P v := by
  obtain ⟨q, e⟩ := lst_at h0 h1 hl hn
  exact ⟨_, e, h _ (List.getElem_mem q)⟩
noncomputable def isIns (v : V) : Prop := ∃ c r, v = .tup (.int c :: r) ∧ plainC c
theorem ins_of (c : Int) (r : List V) (h : plainC c) : isIns (.tup (.int c :: r)) := ⟨c, r, rfl, h⟩
theorem ex_ret {W : Wd} {σ : Sg} {e : E} {p : Pos} {v : V} (h : ev W (full σ) e = some v) : ex W (.ret e p) σ = some (.rt v) := by
  rw [ex, h]; rfl
theorem ev_call {W : Wd} {r : List (Option V)} {f : Nat} {l : Es} {p q : Pos} {xs : List V} {v : V} (h1 : evs W r l = some xs) (h2 : W.f f xs = some v) : ev W r (.call f l p q) = some v := by
  rw [ev, h1]; exact h2
theorem plain_run {W : Wd} (n : Int) : ∃ v, runB W fd17 [.int n] = some v ∧ isIns v := by
  obtain ⟨nr, e1, k, rfl⟩ := subV_all (P := fun v => ∃ k, v = .int k) (l := [.int 2, .int 3, .int 4, .int 5, .int 11]) (i := n / 11 % 5) (n := 5) (by omega) (by omega) rfl (by omega) (by simp)
  obtain ⟨v, e2, hv⟩ := subV_all (P := isIns) (l := [.tup [.int 1], .tup [.int 12, .int k], .tup [.int 14, .int k, .int 11, .int 4], .tup [.int 17, .int k, .int 5], .tup [.int 28, .int (-1)], .tup [.int 32, .int k], .tup [.int 40, .int 2, .int k], .tup [.int 65, .int k], .tup [.int 66, .int k], .tup [.int 64523], .tup [.int 64524, .int k, .int 3]]) (i := n % 11) (n := 11) (by omega) (by omega) rfl (by omega) (by
    intro v hv
    simp only [List.mem_cons, List.not_mem_nil, or_false] at hv
    rcases hv with rfl | rfl | rfl | rfl | rfl | rfl | rfl | rfl | rfl | rfl | rfl <;> exact ins_of _ _ (by decide))
  refine ⟨v, runB_of rfl ?_, hv⟩
  show exs (cut W fd17) bd17 [.fr (.int n), .un] = _
  refine (exs_nx (ex_asg (v := .int k) (σ' := [.fr (.int n), .fr (.int k)]) (evA_of (ev_sub rfl rfl e1)) rfl)).trans ?_
  exact exs_rt (ex_ret (ev_sub rfl rfl e2))
theorem cdF_left {B : List V} {v : V} {m : Nat} (h : m < B.length) : cdF (B ++ [v]) m = cdF B m := by
  unfold cdF; rw [List.getElem?_append_left h]
theorem cdF_last {B : List V} {c : Int} {r : List V} : cdF (B ++ [.tup (.int c :: r)]) B.length = c := by
  refine cdF_at (r := r) ?_
  simp
theorem stk_left {B : List V} {v : V} {m : Nat} (h : m ≤ B.length) : stk (cdF (B ++ [v])) m = stk (cdF B) m := stk_congr fun _ hk => cdF_left (by omega)
structure GI (B : List V) (k : Nat) : Prop where
  ai : AllI B
  len : (stk (cdF B) B.length).length = k
  five : ∀ m, m < B.length → cdF B m = 5 → stk (cdF B) m ≠ []
theorem GI.app {B : List V} {k k' : Nat} {c : Int} {r : List V} (G : GI B k) (h5 : c = 5 → k ≠ 0) (hk : k' = if blk c then k + 1 else if c = 11 then k - 1 else k) : GI (B ++ [.tup (.int c :: r)]) k' := by
  refine ⟨fun v hv => ?_, ?_, fun m hm e => ?_⟩
  · rcases List.mem_append.mp hv with q | q
    · exact G.ai v q
    · exact ⟨c, r, List.mem_singleton.mp q⟩
  · have : (B ++ [V.tup (.int c :: r)]).length = B.length + 1 := by simp
    rw [this, stk, cdF_last, stk_left (Nat.le_refl _)]
    have := G.len
    split
    · rename_i q; rw [hk, if_pos q]; simp [this]
    · rename_i q
      rw [hk, if_neg q]
      split
      · rw [List.length_tail, this]
      · exact this
  · have : (B ++ [V.tup (.int c :: r)]).length = B.length + 1 := by simp
    rcases Nat.lt_or_ge m B.length with q | q
    · rw [cdF_left q] at e
      rw [stk_left (Nat.le_of_lt q)]
      exact G.five m q e
    · have e2 : m = B.length := by omega
      subst e2
      rw [cdF_last] at e
      rw [stk_left (Nat.le_refl _)]
      intro z
      have := G.len
      rw [z] at this
      exact h5 e this.symm
theorem GI.close : ∀ {j : Nat} {B : List V} {k : Nat}, GI B k → GI (B ++ List.replicate j (.tup [.int 11])) (k - j)
  | 0, B, k, G => by simpa using G
  | j + 1, B, k, G => by
    have G1 := G.app (k' := k - 1) (c := 11) (r := []) (fun z => by cases z) (by rw [if_neg (not_blk11 rfl), if_pos rfl])
    have G2 := G1.close (j := j)
    rw [List.append_assoc] at G2
    rw [show k - (j + 1) = k - 1 - j by omega]
    exact G2
theorem tv_and3 {W : Wd} {r : List (Option V)} {a b d : E} {p : Pos} {x y z : Bool} (h1 : tv W r a = some x) (h2 : x = true → tv W r b = some y) (h3 : x = true → y = true → tv W r d = some z) : tv W r (.bop3 .And a b d p) = some (x && y && z) := by
  rw [tv, h1]
  cases x
  · rfl
  · simp only [if_true, h2]
    cases y
    · rfl
    · simp only [if_true]
      rw [h3 rfl rfl]; rfl
noncomputable def lb18 : Ss := bodyOf (sN bd18 1)
noncomputable def tg18 : Tg := tgOf (sN bd18 1)
noncomputable abbrev st18 (T b i : V) (u3 u4 u5 : Sl) : Sg := [.fr T, .ow b, .ow i, u3, u4, u5]
noncomputable def allInt (l : List V) : Prop := ∀ v ∈ l, ∃ i, v = .int i
theorem allInt.app {l : List V} (h : allInt l) (k : Int) : allInt (l ++ [.int k]) := fun v hv => by
  rcases List.mem_append.mp hv with q | q
  · exact h v q
  · exact ⟨k, List.mem_singleton.mp q⟩
theorem allInt.last {l : List V} (h : allInt l) (hn : l ≠ []) : ∃ l' k, l = l' ++ [.int k] ∧ allInt l' := by
  obtain ⟨k, hk⟩ := h _ (List.getLast_mem hn)
  refine ⟨l.dropLast, k, ?_, fun v hv => h v (List.dropLast_subset l hv)⟩
  rw [← hk, List.dropLast_concat_getLast hn]
theorem setV_last {l : List V} {a b : V} (h : (l ++ [a]).length ≤ big) : setV (.lst (l ++ [a])) (.int (-1)) b = some (.lst (l ++ [b])) := by
  show (if _ then _ else _) = _
  rw [if_pos ⟨rfl, by simp, h⟩]
  simp
theorem isE_app {l : List V} {a : V} : (l ++ [a]).isEmpty = false := by cases l <;> rfl
theorem g_step {W : Wd} (hp : ∀ n, ∃ v, W.f 17 [.int n] = some v ∧ isIns v) {T : V} {B I : List V} {x : Int} {u4 u5 : Sl} (h4 : uf u4) (h5 : uf u5) (hI : allInt I) (G : GI B I.length) (hB : B.length ≤ 100) :
    ∃ B' I', exs W lb18 (st18 T (.lst B) (.lst I) (.fr (.int x)) u4 u5) = some (.nx (st18 T (.lst B') (.lst I') (.fr (.int x)) (.fr (.int (x % 7))) (.fr (.int (x / 7))))) ∧ allInt I' ∧ GI B' I'.length ∧ B'.length = B.length + 1 := by
  have bb : B.length ≤ big := by unfold big; omega
  have il : I.length ≤ 100 := by
    have h := stk_len (cdF B) B.length
    have := G.len
    omega
  have bi : I.length ≤ big := by unfold big; omega
  have e0 : ∀ ls, exs W (.cons (sN lb18 0) ls) (st18 T (.lst B) (.lst I) (.fr (.int x)) u4 u5) = exs W ls (st18 T (.lst B) (.lst I) (.fr (.int x)) (.fr (.int (x % 7))) (.fr (.int (x / 7)))) := fun ls =>
    exs_nx (ex_asgX (xs := [.int (x % 7), .int (x / 7)]) (evA_of rfl) ((storeT2 (u := u5) (w := u4) rfl h5 rfl h4).trans rfl))
  by_cases c1 : x % 7 < 3
  · obtain ⟨v, e1, _⟩ := subV_all (P := fun _ => True) (l := [.int (-64), .int (-1), .int 5, .int 11]) (i := x / 7 % 4) (n := 4) (by omega) (by omega) rfl (by omega) (fun _ _ => trivial)
    refine ⟨B ++ [.tup [.int (2 + x % 7), v]], I ++ [.int (x % 7)], ?_, hI.app _, ?_, by simp⟩
    · refine (e0 _).trans ?_
      refine (exs_nx ((ex_if_t (tv_cmp (x := .int (x % 7)) (y := .int 3) rfl rfl ?_)).trans ?_)).trans exs_nil
      · show some (decide (x % 7 < 3)) = _
        rw [decide_eq_true c1]
      · refine (exs_nx (ex_app (v := .tup [.int (2 + x % 7), v]) rfl rfl (evA_of ?_) bb)).trans ?_
        · have e2 : ev W (frz (st18 T (.lst B) (.lst I) (.fr (.int x)) (.fr (.int (x % 7))) (.fr (.int (x / 7))))) (.sub (.lst (.cons (.neg 64 0 (P 230 37 230 39) (P 230 36 230 39)) (.cons (.neg 1 0 (P 230 42 230 43) (P 230 41 230 43)) (.cons (.int 5 0 (P 230 45 230 46)) (.cons (.int 11 0 (P 230 48 230 50)) .nil)))) (P 230 35 230 51)) (.bin (.loc 5 (P 230 52 230 56)) .Mod (.int 4 0 (P 230 59 230 60)) (P 230 52 230 60)) (P 230 35 230 61)) = some v := ev_sub rfl rfl e1
          rw [ev, evs, evs, e2]
          rfl
        · exact (exs_nx (ex_app (v := .int (x % 7)) rfl rfl (evA_of rfl) bi)).trans exs_nil
    · have := G.app (k' := I.length + 1) (c := 2 + x % 7) (r := [v]) (fun z => by omega) (by rw [if_pos (by unfold blk; omega)])
      simpa using this
  · have t1 : ∀ ls1 ls2 p, ex W (.ifs (condOf (sN lb18 1)) ls1 ls2 p) (st18 T (.lst B) (.lst I) (.fr (.int x)) (.fr (.int (x % 7))) (.fr (.int (x / 7)))) = exs W ls2 (st18 T (.lst B) (.lst I) (.fr (.int x)) (.fr (.int (x % 7))) (.fr (.int (x / 7)))) := fun ls1 ls2 p => ex_if_f (tv_cmp (x := .int (x % 7)) (y := .int 3) rfl rfl (by
      show some (decide (x % 7 < 3)) = _
      rw [decide_eq_false c1]))
    by_cases c2 : x % 7 = 3 ∧ ∃ I', I = I' ++ [.int 2]
    · obtain ⟨c2, I', rfl⟩ := c2
      refine ⟨B ++ [.tup [.int 5]], I' ++ [.int 3], ?_, fun v hv => ?_, ?_, by simp⟩
      · refine (e0 _).trans ?_
        refine (exs_nx ((t1 _ _ _).trans ?_)).trans exs_nil
        refine (exs_nx ((ex_if_t (tv_and3 (x := true) (y := true) (z := true) (tv_cmp (x := .int (x % 7)) (y := .int 3) rfl rfl ((cmpI_eq _ _).trans (by rw [decide_eq_true c2]))) (fun _ => tv_cmp (x := .lst (I' ++ [.int 2])) (y := .lst []) rfl rfl ((ne_nil hI).trans (by rw [isE_app]; rfl))) fun _ _ => tv_cmp (x := .int 2) (y := .int 2) (ev_sub (x := .lst (I' ++ [.int 2])) (y := .int (-1)) rfl rfl (subV_last bi)) rfl rfl)).trans ?_)).trans exs_nil
        refine (exs_nx (ex_app (v := .tup [.int 5]) rfl rfl (evA_of rfl) bb)).trans ?_
        exact (exs_nx (ex_set (o := .lst (I' ++ [.int 2])) (k := .int (-1)) (v := .int 3) (evA_of rfl) rfl (evA_of rfl) (setV_last bi))).trans exs_nil
      · rcases List.mem_append.mp hv with q | q
        · exact hI v (List.mem_append_left _ q)
        · exact ⟨3, List.mem_singleton.mp q⟩
      · have := G.app (k' := (I' ++ [V.int 2]).length) (c := 5) (r := []) (fun _ => by simp) (by rw [if_neg (not_blk5 rfl), if_neg (by decide)])
        simpa using this
    · have t2 : tv W (full (st18 T (.lst B) (.lst I) (.fr (.int x)) (.fr (.int (x % 7))) (.fr (.int (x / 7))))) (condOf (sN (elseOf (sN lb18 1)) 0)) = some false := by
        by_cases q1 : x % 7 = 3
        · by_cases q2 : I = []
          · subst q2
            exact (tv_and3 (z := true) (tv_cmp (x := .int (x % 7)) (y := .int 3) rfl rfl (cmpI_eq _ _)) (fun _ => tv_cmp (x := .lst []) (y := .lst []) rfl rfl (ne_nil hI)) (fun _ z => by cases z)).trans (by simp)
          · obtain ⟨I', k, rfl, _⟩ := hI.last q2
            have q3 : k ≠ 2 := fun z => c2 ⟨q1, I', by rw [z]⟩
            exact (tv_and3 (tv_cmp (x := .int (x % 7)) (y := .int 3) rfl rfl (cmpI_eq _ _)) (fun _ => tv_cmp (x := .lst (I' ++ [.int k])) (y := .lst []) rfl rfl (ne_nil hI)) fun _ _ => tv_cmp (x := .int k) (y := .int 2) (ev_sub (x := .lst (I' ++ [.int k])) (y := .int (-1)) rfl rfl (subV_last bi)) rfl (cmpI_eq _ _)).trans (by simp [q3])
        · exact (tv_and3 (y := true) (z := true) (tv_cmp (x := .int (x % 7)) (y := .int 3) rfl rfl (cmpI_eq _ _)) (fun z => absurd (of_decide_eq_true z) q1) (fun z _ => absurd (of_decide_eq_true z) q1)).trans (by simp [q1])
      by_cases c3 : x % 7 = 4 ∧ I ≠ []
      · obtain ⟨I', k, rfl, hI'⟩ := hI.last c3.2
        refine ⟨B ++ [.tup [.int 11]], I', ?_, hI', ?_, by simp⟩
        · refine (e0 _).trans ?_
          refine (exs_nx ((t1 _ _ _).trans ?_)).trans exs_nil
          refine (exs_nx ((ex_if_f t2).trans ?_)).trans exs_nil
          refine (exs_nx ((ex_if_t (tv_and (x := true) (y := true) (tv_cmp (x := .int (x % 7)) (y := .int 4) rfl rfl ((cmpI_eq _ _).trans (by rw [decide_eq_true c3.1]))) (fun _ => tv_cmp (x := .lst (I' ++ [.int k])) (y := .lst []) rfl rfl ((ne_nil hI).trans (by rw [isE_app]; rfl))))).trans ?_)).trans exs_nil
          refine (exs_nx (ex_app (v := .tup [.int 11]) rfl rfl (evA_of rfl) bb)).trans ?_
          exact (exs_nx (ex_pop (x := .int k) rfl rfl bi rfl)).trans exs_nil
        · refine G.app (k' := I'.length) (c := 11) (r := []) (fun z => by cases z) ?_
          rw [if_neg (not_blk11 rfl), if_pos rfl]; simp
      · obtain ⟨v, hv, c, r, rfl, hc⟩ := hp (x / 7)
        refine ⟨B ++ [.tup (.int c :: r)], I, ?_, hI, ?_, by simp⟩
        · refine (e0 _).trans ?_
          refine (exs_nx ((t1 _ _ _).trans ?_)).trans exs_nil
          refine (exs_nx ((ex_if_f t2).trans ?_)).trans exs_nil
          refine (exs_nx ((ex_if_f ?_).trans ?_)).trans exs_nil
          · refine (tv_and (tv_cmp (x := .int (x % 7)) (y := .int 4) rfl rfl (cmpI_eq _ _)) (fun _ => tv_cmp (x := .lst I) (y := .lst []) rfl rfl (ne_nil hI))).trans ?_
            by_cases q1 : x % 7 = 4
            · have : I = [] := by
                cases I with
                | nil => rfl
                | cons _ _ => exact absurd ⟨q1, by simp⟩ c3
              subst this; simp
            · simp [q1]
          · exact (exs_nx (ex_app rfl rfl (evA_of (ev_call (xs := [.int (x / 7)]) rfl hv)) bb)).trans exs_nil
        · exact G.app (k' := I.length) (fun z => absurd z hc.2.1) (by rw [if_neg hc.1, if_neg hc.2.2])
end Mine

namespace Mine
theorem g_loop {W : Wd} (hp : ∀ n, ∃ v, W.f 17 [.int n] = some v ∧ isIns v) {T : V} : ∀ (l : List Int) (B I : List V) (u3 u4 u5 : Sl), uf u3 → uf u4 → uf u5 → allInt I → GI B I.length → B.length + l.length ≤ 100 →
    ∃ B' I' v3 v4 v5, loopV tg18 (exs W lb18) (l.map .int) (st18 T (.lst B) (.lst I) u3 u4 u5) = some (.nx (st18 T (.lst B') (.lst I') v3 v4 v5)) ∧ allInt I' ∧ GI B' I'.length ∧ B'.length = B.length + l.length
  | [], B, I, u3, u4, u5, _, _, _, hI, G, hB => ⟨B, I, u3, u4, u5, rfl, hI, G, rfl⟩
  | x :: l, B, I, u3, u4, u5, h3, h4, h5, hI, G, hB => by
    simp only [List.length_cons] at hB
    obtain ⟨B1, I1, e1, hI1, G1, l1⟩ := g_step hp (T := T) (x := x) h4 h5 hI G (by omega)
    obtain ⟨B2, I2, v3, v4, v5, e2, hI2, G2, l2⟩ := g_loop hp (T := T) l B1 I1 (.fr (.int x)) (.fr (.int (x % 7))) (.fr (.int (x / 7))) uf_fr uf_fr uf_fr hI1 G1 (by omega)
    refine ⟨B2, I2, v3, v4, v5, ?_, hI2, G2, by simp only [List.length_cons]; omega⟩
    have st : storeG (st18 T (.lst B) (.lst I) u3 u4 u5) tg18 (.int x) = some (st18 T (.lst B) (.lst I) (.fr (.int x)) u4 u5) := (storeF_uf (σ := st18 T (.lst B) (.lst I) u3 u4 u5) (i := 3) (u := u3) rfl h3).trans rfl
    exact (loopV_cons st e1).trans e2
theorem GI.nil : GI [] 0 := ⟨fun v h => absurd h List.not_mem_nil, rfl, fun m h => absurd h (Nat.not_lt_zero _)⟩
theorem body_run {W : Wd} (hp : ∀ n, ∃ v, W.f 17 [.int n] = some v ∧ isIns v) (h0 : W.b 0 = true) (l : List Int) (hl : l.length ≤ 60) :
    ∃ B, runB W fd18 [.lst (l.map .int)] = some (.lst B) ∧ AllI B ∧ B.length ≤ 900 ∧ stk (cdF B) B.length = [] ∧ ∀ m, m < B.length → cdF B m = 5 → stk (cdF B) m ≠ [] := by
  have hp' : ∀ n, ∃ v, (cut W fd18).f 17 [.int n] = some v ∧ isIns v := fun n => by
    obtain ⟨v, e, h⟩ := hp n
    exact ⟨v, cut_f rfl e, h⟩
  obtain ⟨B, I, v3, v4, v5, e, hI, G, hB⟩ := g_loop hp' (T := .lst (l.map .int)) l [] [] .un .un .un uf_un uf_un uf_un (fun v h => absurd h List.not_mem_nil) GI.nil (by simp; omega)
  simp only [List.length_nil, Nat.zero_add] at hB
  have il : I.length ≤ 60 := by
    have h := stk_len (cdF B) B.length
    have := G.len
    omega
  have G2 := G.close (j := I.length + 1)
  rw [show I.length - (I.length + 1) = 0 by omega] at G2
  refine ⟨B ++ List.replicate (I.length + 1) (.tup [.int 11]), runB_of rfl ?_, G2.ai, ?_, List.eq_nil_of_length_eq_zero G2.len, G2.five⟩
  · show exs (cut W fd18) bd18 [.fr (.lst (l.map .int)), .un, .un, .un, .un, .un] = _
    refine (exs_nx (σ' := st18 (.lst (l.map .int)) (.lst []) (.lst []) .un .un .un) rfl).trans ?_
    refine (exs_nx ((ex_fr (l := l.map .int) (v := .lst (l.map .int)) (evA_of rfl) ?_ rfl).trans e)).trans ?_
    · show (if (l.map V.int).length ≤ big then _ else _) = _
      rw [if_pos (by rw [List.length_map]; unfold big; omega)]
    · have b0 : (cut W fd18).b 0 = true := by
        show (fd18.bs.contains 0 && W.b 0) = true
        rw [h0]; rfl
      have b1 : binV .Mult (.lst [.tup [.int 11]]) (.int (I.length + 1)) = some (.lst (List.replicate (I.length + 1) (.tup [.int 11]))) := by
        show (if (0 : Int) ≤ (I.length : Int) + 1 ∧ (I.length : Int) + 1 ≤ 256 then _ else _) = _
        rw [if_pos ⟨by omega, by omega⟩]
        rfl
      have b2 : binV .Add (.lst B) (.lst (List.replicate (I.length + 1) (.tup [.int 11]))) = some (.lst (B ++ List.replicate (I.length + 1) (.tup [.int 11]))) := by
        show (if B.length + (List.replicate (I.length + 1) (V.tup [.int 11])).length ≤ big then _ else _) = _
        rw [if_pos (by rw [List.length_replicate]; unfold big; omega)]
      have b3 : lenV (.lst I) = some (.int I.length) := by
        show (if I.length ≤ big then _ else _) = _
        rw [if_pos (by unfold big; omega)]
      have le : ∀ (a : E) (pf p : Pos) (r : List (Option V)) (x y : V), ev (cut W fd18) r a = some x → lenV x = some y → ev (cut W fd18) r (.len a pf p) = some y := fun a pf p r x y h1 h2 => by
        rw [ev, h1]
        simp only [b0, if_true, h2]
      have bi : ∀ (a b : E) (op : Operator) (p : Pos) (r : List (Option V)) (x y z : V), ev (cut W fd18) r a = some x → ev (cut W fd18) r b = some y → binV op x y = some z → ev (cut W fd18) r (.bin a op b p) = some z := fun a b op p r x y z h1 h2 h3 => by
        rw [ev, h1, h2]; exact h3
      exact exs_rt (ex_ret (bi _ _ _ _ _ _ _ _ rfl (bi _ _ _ _ _ _ _ _ rfl (bi _ _ _ _ _ _ _ _ (le _ _ _ _ _ _ rfl b3) rfl rfl) b1) b2))
  · rw [List.length_append, List.length_replicate]; omega
theorem ev_bin {W : Wd} {r : List (Option V)} {a b : E} {op : Operator} {p : Pos} {x y z : V} (h1 : ev W r a = some x) (h2 : ev W r b = some y) (h3 : binV op x y = some z) : ev W r (.bin a op b p) = some z := by
  rw [ev, h1, h2]; exact h3
theorem wl_f {n f : Nat} {F : Fd} {xs : List V} (h5 : f ≠ 5) (hF : fds f = some F) : (WL (n + 1)).f f xs = runB (WL n) F xs := by
  show (if f = 5 then leftV xs else match fds f with
      | some F => runB (WL n) F xs
      | none => none) = _
  rw [if_neg h5, hF]
theorem blk_dec (x : Int) : (decide (x = 2) || (decide (x = 3) || decide (x = 4))) = decide (blk x) := by
  unfold blk
  by_cases q1 : x = 2
  · simp [q1]
  · by_cases q2 : x = 3
    · simp [q2]
    · simp [q1, q2]
theorem wl_g (n : Nat) : (WL n).g = gl := by cases n <;> rfl
theorem m6_ok (n : Nat) : M6 (cut (WL (n + 1)) fd6) where
  hb := fun x => cut_f rfl (by rw [wl_f (by decide) rfl, block_val (wl_g n), blk_dec])
  g11 := cut_g rfl rfl
  g12 := cut_g rfl rfl
  b2 := rfl
theorem wc_f {n f : Nat} {xs : List V} (h : [6, 8, 10, 12, 16, 18, 19].contains f = true) : (WC n).f f xs = (WL n).f f xs := by
  show (if [6, 8, 10, 12, 16, 18, 19].contains f = true then _ else _) = _
  rw [if_pos h]
/-- the law's told -/
noncomputable def tl (ns : List Int) : List Int := ns.take 24 ++ [51, 68, 59, 81]
theorem part_a (ns : List Int) (hn : ns.length ≤ 63) : ∃ vb, exs (WC 4) bd20a [.fr (.lst (ns.map .int)), .un, .un] = some (.nx [.fr (.lst (ns.map .int)), .fr (.lst ((tl ns).map .int)), .fr vb]) := by
  have hl : (tl ns).length ≤ 60 := by
    unfold tl
    rw [List.length_append, List.length_take]
    show _ + 4 ≤ 60
    omega
  obtain ⟨B, e1, a1, a2, a3, a4⟩ := body_run (W := WL 3) (fun n => by
    obtain ⟨v, e, h⟩ := plain_run (W := WL 2) n
    exact ⟨v, (wl_f (by decide) rfl).trans e, h⟩) rfl (tl ns) hl
  obtain ⟨x, y, e2, e3, e4⟩ := same_run (W := WL 3) (m6_ok 2) rfl rfl a1 a2 a3 a4
  have f18 : (WC 4).f 18 [.lst ((tl ns).map .int)] = some (.lst B) := (wc_f (by decide)).trans ((wl_f (by decide) rfl).trans e1)
  have f6 : (WC 4).f 6 [.lst B] = some x := (wc_f (by decide)).trans ((wl_f (by decide) rfl).trans e2)
  have f19 : (WC 4).f 19 [.lst B] = some y := (wc_f (by decide)).trans ((wl_f (by decide) rfl).trans e3)
  refine ⟨.lst B, ?_⟩
  have mb : (ns.map V.int).length ≤ big := by rw [List.length_map]; unfold big; omega
  have t1 : toV (.lst (ns.map V.int)) (.int 24) = some (.lst ((ns.map V.int).take 24)) := by
    show (if (0 : Int) ≤ 24 ∧ (24 : Int) ≤ 1000 ∧ (ns.map V.int).length ≤ big then _ else _) = _
    rw [if_pos ⟨by decide, by decide, mb⟩]
    rfl
  have tb : ((ns.map V.int).take 24).length ≤ 24 := by rw [List.length_take]; omega
  have t2 : listV (.lst ((ns.map V.int).take 24)) = some (.lst ((ns.map V.int).take 24)) := by
    show (if _ ≤ big then _ else _) = _
    rw [if_pos (by unfold big; omega)]
  have t3 : binV .Add (.lst ((ns.map V.int).take 24)) (.lst [.int 51, .int 68, .int 59, .int 81]) = some (.lst ((tl ns).map .int)) := by
    show (if ((ns.map V.int).take 24).length + 4 ≤ big then _ else _) = _
    rw [if_pos (by unfold big; omega)]
    simp [tl]
  refine (exs_nx (ex_asg (σ' := [.fr (.lst (ns.map .int)), .fr (.lst ((tl ns).map .int)), .un]) (v := .lst ((tl ns).map .int)) (evA_of (ev_bin (x := .lst ((ns.map V.int).take 24)) (y := .lst [.int 51, .int 68, .int 59, .int 81]) ?_ rfl t3)) rfl)).trans ?_
  · have : ev (WC 4) (frz [.fr (.lst (ns.map .int)), .un, .un]) (.slTo (.loc 0 (P 261 16 261 22)) (.int 24 0 (P 261 24 261 26)) (P 261 23 261 26) (P 261 16 261 27)) = some (.lst ((ns.map V.int).take 24)) := t1
    rw [ev, this]
    exact t2
  refine (exs_nx (ex_asg (σ' := [.fr (.lst (ns.map .int)), .fr (.lst ((tl ns).map .int)), .fr (.lst B)]) (v := .lst B) (evA_of (ev_call (xs := [.lst ((tl ns).map .int)]) rfl f18)) rfl)).trans ?_
  exact (exs_nx ((ex_if_f (tv_cmp (ev_call (xs := [.lst B]) rfl f6) (ev_call (xs := [.lst B]) rfl f19) e4)).trans exs_nil)).trans exs_nil
end Mine

namespace Mine
noncomputable def lb7 : Ss := bodyOf (sN bd7 1)
noncomputable def tg7 : Tg := tgOf (sN bd7 1)
theorem lt_chain {a x c : Int} (h : ¬ (a ≤ x ∧ x < c)) : (match decide (a ≤ x) with
    | true => some (decide (x < c))
    | false => some false) = some false := by
  by_cases q : a ≤ x
  · have : ¬ x < c := fun z => h ⟨q, z⟩
    simp [q, this]
  · simp [q]
theorem tv_chn {W : Wd} {r : List (Option V)} {a b d : E} {o1 o2 : CmpOp} {p : Pos} {x y z : V} {u w : Bool} (h1 : ev W r a = some x) (h2 : ev W r b = some y) (h3 : cmpB o1 x y = some u) (h4 : ev W r d = some z) (h5 : cmpB o2 y z = some w) : tv W r (.chn a o1 b o2 d p) = some (u && w) := by
  rw [tv, h1, h2]
  show (match cmpB o1 x y with
    | some true => match ev W r d with
      | some z => cmpB o2 y z
      | none => none
    | some false => some false
    | none => none) = _
  rw [h3]
  cases u
  · rfl
  · show (match ev W r d with
      | some z => cmpB o2 y z
      | none => none) = _
    rw [h4]; exact h5
theorem storeT3' {σ : Sg} {i j k : Nat} {u w z : Sl} {a b d : V} (hi : σ[i]? = some u) (hu : uf u) (hj : (σ.set i (.fr a))[j]? = some w) (hw : uf w) (hk : ((σ.set i (.fr a)).set j (.fr b))[k]? = some z) (hz : uf z) : storeT σ [i, j, k] [a, b, d] = some (((σ.set i (.fr a)).set j (.fr b)).set k (.fr d)) := storeT3 hi hu hj hw hk hz
theorem nm_loop {W : Wd} (h0 : W.b 0 = true) {x : Int} : ∀ (l : List V) (u1 u2 u3 : Sl), (∀ u ∈ l, ∃ (a : Int) (p : V) (ws : List V), u = .tup [.int a, p, .tup ws] ∧ ws.length ≤ big ∧ ¬ (a ≤ x ∧ x < a + (ws.length : Int))) → uf u1 → uf u2 → uf u3 →
    ∃ σ, loopV tg7 (exs W lb7) l [.fr (.int x), u1, u2, u3] = some (.nx σ)
  | [], u1, u2, u3, _, _, _, _ => ⟨_, rfl⟩
  | u :: l, u1, u2, u3, h, h1, h2, h3 => by
    obtain ⟨a, p, ws, rfl, hb, hn⟩ := h u (List.mem_cons_self ..)
    obtain ⟨σ, hσ⟩ := nm_loop h0 (x := x) l (.fr (.int a)) (.fr p) (.fr (.tup ws)) (fun v hv => h v (List.mem_cons_of_mem _ hv)) uf_fr uf_fr uf_fr
    refine ⟨σ, ?_⟩
    have st : storeG [.fr (.int x), u1, u2, u3] tg7 (.tup [.int a, p, .tup ws]) = some [.fr (.int x), .fr (.int a), .fr p, .fr (.tup ws)] := (storeT3' (u := u1) (w := u2) (z := u3) rfl h1 rfl h2 rfl h3).trans rfl
    refine (loopV_cons st ?_).trans hσ
    refine (exs_nx ((ex_if_f ((tv_chn (x := .int a) (y := .int x) (z := .int (a + ws.length)) (u := decide (a ≤ x)) (w := decide (x < a + ws.length)) rfl rfl rfl (ev_bin (x := .int a) (y := .int ws.length) rfl ?_ rfl) rfl).trans ?_)).trans exs_nil)).trans exs_nil
    · show (if W.b 0 = true then lenV (.tup ws) else none) = _
      rw [h0, if_pos rfl]
      show (if ws.length ≤ big then _ else _) = _
      rw [if_pos hb]
    · congr 1
      by_cases q : a ≤ x
      · have : ¬ x < a + (ws.length : Int) := fun z => hn ⟨q, z⟩
        simp [q, this]
      · simp [q]
noncomputable def rowsL : List V := match gROWS with
  | .tup l => l
  | _ => []
theorem nm_rows {x : Int} (hx : inKeys x = false) : ∀ u ∈ rowsL, ∃ (a : Int) (p : V) (ws : List V), u = .tup [.int a, p, .tup ws] ∧ ws.length ≤ big ∧ ¬ (a ≤ x ∧ x < a + (ws.length : Int)) := by
  intro u hu
  simp only [rowsL, gROWS, List.mem_cons, List.not_mem_nil, or_false] at hu
  have r := fun (a : Int) (k : Nat) h => range_no hx a k h
  rcases hu with rfl | rfl | rfl | rfl
  · exact ⟨_, _, _, rfl, by decide, by have := r 69 11 (by decide +kernel); simp only [List.length_cons, List.length_nil]; omega⟩
  · exact ⟨_, _, _, rfl, by decide, by have := r 80 11 (by decide +kernel); simp only [List.length_cons, List.length_nil]; omega⟩
  · exact ⟨_, _, _, rfl, by decide, by have := r 103 18 (by decide +kernel); simp only [List.length_cons, List.length_nil]; omega⟩
  · exact ⟨_, _, _, rfl, by decide, by have := r 121 18 (by decide +kernel); simp only [List.length_cons, List.length_nil]; omega⟩
theorem name_none {W : Wd} (hg : W.g = gl) (hb : W.b 0 = true) {x : Int} (hx : inKeys x = false) : runB W fd7 [.int x] = some .none := by
  have c7 : (cut W fd7).g 7 = some gNAMES := cut_g rfl (by rw [hg]; rfl)
  have c6 : (cut W fd7).g 6 = some gROWS := cut_g rfl (by rw [hg]; rfl)
  have b0 : (cut W fd7).b 0 = true := by
    show (fd7.bs.contains 0 && W.b 0) = true
    rw [hb]; rfl
  obtain ⟨σ, hσ⟩ := nm_loop b0 (x := x) rowsL .un .un .un (nm_rows hx) uf_un uf_un uf_un
  refine runB_of rfl ?_
  show exs (cut W fd7) bd7 [.fr (.int x), .un, .un, .un] = _
  refine (exs_nx ((ex_if_f (tv_in rfl c7 (no_names hx))).trans exs_nil)).trans ?_
  refine (exs_nx ((ex_fr (v := gROWS) (l := rowsL) (evA_of (ev_glo c6)) rfl rfl).trans hσ)).trans ?_
  exact exs_rt rfl
theorem left_none {x : Int} (hx : inKeys x = false) : leftV [.int x] = some (.bool false) := by
  have h253 : x ≠ 253 := fun z => by subst z; exact absurd hx (by decide)
  show (if x = 253 then _ else match gLEFT_RANGES with
      | .lst l => some (V.bool (leftIn x l))
      | _ => none) = _
  rw [if_neg h253]
  show some (V.bool (leftIn x _)) = _
  rw [leftIn_no]
  intro u hu
  simp only [List.mem_cons, List.not_mem_nil, or_false] at hu
  have r := fun (a : Int) (k : Nat) h => range_no hx a k h
  rcases hu with rfl | rfl | rfl | rfl | rfl | rfl | rfl | rfl
  · exact ⟨_, _, rfl, by have := r 42 2 (by decide +kernel); omega⟩
  · exact ⟨_, _, rfl, by have := r 56 2 (by decide +kernel); omega⟩
  · exact ⟨_, _, rfl, by have := r 67 2 (by decide +kernel); omega⟩
  · exact ⟨_, _, rfl, by have := r 91 12 (by decide +kernel); omega⟩
  · exact ⟨_, _, rfl, by have := r 139 28 (by decide +kernel); omega⟩
  · exact ⟨_, _, rfl, by have := r 168 4 (by decide +kernel); omega⟩
  · exact ⟨_, _, rfl, by have := r 174 18 (by decide +kernel); omega⟩
  · exact ⟨_, _, rfl, by have := r 64512 8 (by decide +kernel); omega⟩
theorem ev_meth {W : Wd} {r : List (Option V)} {a e : E} {n : Nat} {pa p : Pos} {x y z : V} (hp : (isNm a && pa.endLine == p.line) = true) (h1 : ev W r a = some x) (h2 : ev W r e = some y) (h3 : methV n x y = some z) : ev W r (.meth a n e pa p) = some z := by
  rw [ev, if_pos hp, h1, h2]; exact h3
theorem ev_bopF {W : Wd} {r : List (Option V)} {a b : E} {p : Pos} (h1 : ev W r a = some (.bool false)) : ev W r (.bop .And a b p) = some (.bool false) := by
  rw [ev, h1]; rfl
theorem ev_bopO {W : Wd} {r : List (Option V)} {a b : E} {p : Pos} {y : Bool} (h1 : ev W r a = some (.bool false)) (h2 : ev W r b = some (.bool y)) : ev W r (.bop .Or a b p) = some (.bool y) := by
  rw [ev, h1, h2]; rfl
theorem ev_bopA {W : Wd} {r : List (Option V)} {a b : E} {p : Pos} {y : Bool} (h1 : ev W r a = some (.bool true)) (h2 : ev W r b = some (.bool y)) : ev W r (.bop .And a b p) = some (.bool y) := by
  rw [ev, h1, h2]; rfl
theorem ev_cmp {W : Wd} {r : List (Option V)} {a b : E} {op : CmpOp} {p : Pos} {x y : V} {z : Bool} (h1 : ev W r a = some x) (h2 : ev W r b = some y) (h3 : cmpB op x y = some z) : ev W r (.cmp a op b p) = some (.bool z) := by
  rw [ev, h1, h2]
  show (cmpB op x y).map V.bool = _
  rw [h3]; rfl
theorem ev_iteF {W : Wd} {r : List (Option V)} {c a b : E} {p : Pos} {z : V} (h1 : tv W r c = some false) (h2 : ev W r b = some z) : ev W r (.ite c a b p) = some z := by
  rw [ev, h1]; exact h2
theorem ev_iteT {W : Wd} {r : List (Option V)} {c a b : E} {p : Pos} {z : V} (h1 : tv W r c = some true) (h2 : ev W r a = some z) : ev W r (.ite c a b p) = some z := by
  rw [ev, h1]; exact h2
theorem tv_or3 {W : Wd} {r : List (Option V)} {a b d : E} {p : Pos} (h1 : tv W r a = some false) (h2 : tv W r b = some false) (h3 : tv W r d = some false) : tv W r (.bop3 .Or a b d p) = some false := by
  rw [tv, h1]
  show (match tv W r b with
    | some e => if e = true then some true else tv W r d
    | none => none) = _
  rw [h2]; exact h3
theorem told_none {W : Wd} (hg : W.g = gl) {x : Int} (hx : inKeys x = false) (f7 : W.f 7 [.int x] = some .none) (f5 : W.f 5 [.int x] = some (.bool false)) (f1 : W.f 1 [.int x] = some .none) (f2 : W.f 2 [.int x] = some .none) (f4 : W.f 4 [.int x] = some (.bool false)) : runB W fd16 [.int x, nmV, cdV] = some (.bool true) := by
  have c0 : (cut W fd16).g 0 = some gLOADS := cut_g rfl (by rw [hg]; rfl)
  have c1 : (cut W fd16).g 1 = some gSTORES := cut_g rfl (by rw [hg]; rfl)
  have d7 : (cut W fd16).f 7 [.int x] = some .none := cut_f rfl f7
  have d5 : (cut W fd16).f 5 [.int x] = some (.bool false) := cut_f rfl f5
  have d1 : (cut W fd16).f 1 [.int x] = some .none := cut_f rfl f1
  have d2 : (cut W fd16).f 2 [.int x] = some .none := cut_f rfl f2
  have d4 : (cut W fd16).f 4 [.int x] = some (.bool false) := cut_f rfl f4
  have h253 : x ≠ 253 := fun z => by subst z; exact absurd hx (by decide)
  have hk : kn0.all inKeys = true := by decide +kernel
  have n0 : methV 0 nmV (.int x) = some .none := by
    show some ((lookI kn0 vn0 x).getD .none) = _
    rw [lookI_no hx _ _ hk]; rfl
  refine runB_of rfl ?_
  show exs (cut W fd16) bd16 [.fr (.int x), .fr nmV, .fr cdV, .un, .un] = _
  refine (exs_nx (ex_asg (v := .none) (σ' := [.fr (.int x), .fr nmV, .fr cdV, .fr .none, .un]) (evA_of (ev_meth (x := nmV) (y := .int x) rfl rfl rfl n0)) rfl)).trans ?_
  refine (exs_nx (ex_asg (v := .bool false) (σ' := [.fr (.int x), .fr nmV, .fr cdV, .fr .none, .fr (.bool false)]) (evA_of (ev_bopF (ev_cmp (x := .none) (y := .none) rfl rfl rfl))) rfl)).trans ?_
  refine (exs_nx ((ex_if_f (tv_or (x := false) (y := false) (tv_cmp (x := .none) (y := .none) (ev_call (xs := [.int x]) rfl d7) (ev_iteF rfl rfl) rfl) fun _ => tv_cmp (x := .bool false) (y := .bool false) (ev_call (xs := [.int x]) rfl d5) (ev_bopO rfl (ev_cmp (x := .int x) (y := .int 253) rfl rfl ((cmpI_eq _ _).trans (by rw [decide_eq_false h253])))) rfl)).trans exs_nil)).trans ?_
  refine (exs_nx ((ex_if_f ((tv_and (x := false) (y := false) (tv_cmp (x := .none) (y := .none) rfl rfl rfl) fun z => by cases z))).trans exs_nil)).trans ?_
  refine exs_rt ((ex_if_t (tv_or (x := true) (y := true) (tv_cmp (x := .none) (y := .none) rfl rfl rfl) fun z => by cases z)).trans ?_)
  refine (exs_nx ((ex_if_f (tv_or3 (tv_cmp (x := .none) (y := .none) (ev_call (xs := [.int x]) rfl d1) rfl rfl) (tv_cmp (x := .none) (y := .none) (ev_call (xs := [.int x]) rfl d2) rfl rfl) (tv_call (xs := [.int x]) rfl d4))).trans exs_nil)).trans ?_
  have l0 : cmpB .NotIn (.int x) gLOADS = some true := by
    show some (!(lookI _ _ x).isSome) = _
    rw [lookI_no hx _ _ (by decide +kernel)]; rfl
  have l1 : cmpB .NotIn (.int x) gSTORES = some true := by
    show some (!(lookI _ _ x).isSome) = _
    rw [lookI_no hx _ _ (by decide +kernel)]; rfl
  exact exs_rt (ex_ret (ev_bopA (ev_cmp (x := .int x) (y := gLOADS) rfl (ev_glo c0) l0) (ev_cmp (x := .int x) (y := gSTORES) rfl (ev_glo c1) l1)))
theorem wl_b (n i : Nat) (h : i < 4) : (WL n).b i = true := by cases n <;> exact decide_eq_true h
theorem told_no {x : Int} (hx : inKeys x = false) : (WL 4).f 16 [.int x, nmV, cdV] = some (.bool true) := by
  have f0 : (WL 2).f 0 [.int x] = some .none := (wl_f (by decide) rfl).trans (nk_none (wl_g 1) hx)
  have hb : ¬ blk x := fun z => by
    have : inKeys x = true := by
      rcases z with rfl | rfl | rfl <;> decide
    rw [hx] at this; cases this
  refine (wl_f (by decide) rfl).trans (told_none (wl_g 3) hx ?_ ?_ ?_ ?_ ?_)
  · exact (wl_f (by decide) rfl).trans (name_none (wl_g 2) (wl_b 2 0 (by decide)) hx)
  · exact left_none hx
  · exact (wl_f (by decide) rfl).trans (form_none (wl_g 2) hx f0)
  · exact (wl_f (by decide) rfl).trans (stack_none (wl_g 2) hx f0)
  · refine (wl_f (by decide) rfl).trans ((block_val (wl_g 2)).trans ?_)
    rw [blk_dec, decide_eq_false hb]
theorem told_is {x : Int} (h : told x = true) : (WL 4).f 16 [.int x, nmV, cdV] = some (.bool true) := by
  unfold told at h
  generalize (WL 4).f 16 [.int x, nmV, cdV] = o at h
  unfold isT at h
  split at h
  · rw [h]
  · cases h
theorem mem_drop20 {l : List Int} {x : Int} (n : Nat) (h : x ∈ l.drop n) : x ∈ (l.drop n).take 20 ∨ x ∈ l.drop (n + 20) := by
  have e := List.take_append_drop 20 (l.drop n)
  rw [← e] at h
  rcases List.mem_append.mp h with q | q
  · exact .inl q
  · rw [List.drop_drop] at q
    exact .inr q
theorem told_all (x : Int) : (WL 4).f 16 [.int x, nmV, cdV] = some (.bool true) := by
  cases hx : inKeys x with
  | false => exact told_no hx
  | true =>
    have hm : x ∈ (253 :: kn0).drop 0 := by
      unfold inKeys at hx
      rcases Bool.or_eq_true _ _ ▸ hx with q | q
      · exact List.mem_cons_of_mem _ (List.contains_iff_mem.mp q)
      · rw [beq_iff_eq.mp q]; exact List.mem_cons_self ..
    have al : ∀ {l : List Int}, l.all told = true → x ∈ l → told x = true := fun h q => List.all_eq_true.mp h x q
    refine told_is ?_
    rcases mem_drop20 0 hm with q | q
    · exact al told_c0 q
    rcases mem_drop20 20 q with q | q
    · exact al told_c1 q
    rcases mem_drop20 40 q with q | q
    · exact al told_c2 q
    rcases mem_drop20 60 q with q | q
    · exact al told_c3 q
    rcases mem_drop20 80 q with q | q
    · exact al told_c4 q
    rcases mem_drop20 100 q with q | q
    · exact al told_c5 q
    rcases mem_drop20 120 q with q | q
    · exact al told_c6 q
    rcases mem_drop20 140 q with q | q
    · exact al told_c7 q
    rcases mem_drop20 160 q with q | q
    · exact al told_c8 q
    rcases mem_drop20 180 q with q | q
    · exact al told_c9 q
    rcases mem_drop20 200 q with q | q
    · exact al told_c10 q
    · exfalso
      have : (253 :: kn0).drop (200 + 20) = [] := by decide
      rw [this] at q
      cases q
end Mine

namespace Mine
theorem eqv_strs (a b : List Nat) : PyData.eqv (.str (mkS a)) (.str (mkS b)) = decide (a = b) := by
  show (mkS a == mkS b) = _
  by_cases q : a = b
  · subst q; simp
  · rw [decide_eq_false q]
    exact beq_eq_false_iff_ne.mpr fun z => q (mkS_inj.mp z)
theorem cmpS_eq (a b : List Nat) : cmpB .Eq (.str a) (.str b) = some (decide (a = b)) := by
  show some (PyData.eqv (.str (mkS a)) (.str (mkS b))) = _
  rw [eqv_strs]
theorem anyEq_strs (t : List Nat) : ∀ ws : List (List Nat), anyEq (.str t) (ws.map .str) = decide (t ∈ ws)
  | [] => rfl
  | w :: ws => by
    show (PyData.eqv (.str (mkS w)) (.str (mkS t)) || anyEq (.str t) (ws.map .str)) = _
    rw [eqv_strs, anyEq_strs t ws]
    by_cases q : w = t
    · subst q; simp
    · simp [q, Ne.symm q]
theorem flat_strs : ∀ ws : List (List Nat), allFlat (ws.map V.str) = true
  | [] => rfl
  | _ :: ws => flat_strs ws
theorem in_strs (t : List Nat) (ws : List (List Nat)) : cmpB .In (.str t) (.tup (ws.map .str)) = some (decide (t ∈ ws)) := by
  show (if (flat (.str t) && allFlat (ws.map V.str)) = true then some (anyEq (.str t) (ws.map .str)) else none) = _
  rw [flat_strs, anyEq_strs]; rfl
noncomputable def lb8 : Ss := bodyOf (sN bd8 0)
noncomputable def tg8 : Tg := tgOf (sN bd8 0)
noncomputable def lb8' : Ss := bodyOf (sN bd8 1)
noncomputable def tg8' : Tg := tgOf (sN bd8 1)
theorem ev_slTo {W : Wd} {r : List (Option V)} {a i : E} {p q : Pos} {s : List Nat} {k : Int} (h1 : ev W r a = some (.str s)) (h2 : ev W r i = some (.int k)) (h3 : 0 ≤ k ∧ k ≤ 1000) (h4 : s.length ≤ big) : ev W r (.slTo a i p q) = some (.str (s.take k.toNat)) := by
  rw [ev, h1, h2]
  show (if (isNm a || isS (.str s)) = true then toV (.str s) (.int k) else none) = _
  rw [if_pos (by cases isNm a <;> rfl)]
  show (if _ then _ else _) = _
  rw [if_pos ⟨h3.1, h3.2, h4⟩]
theorem ev_slFr {W : Wd} {r : List (Option V)} {a i : E} {p q : Pos} {s : List Nat} {k : Int} (h1 : ev W r a = some (.str s)) (h2 : ev W r i = some (.int k)) (h3 : 0 ≤ k ∧ k ≤ 1000) (h4 : s.length ≤ big) : ev W r (.slFr a i p q) = some (.str (s.drop k.toNat)) := by
  rw [ev, h1, h2]
  show (if s.length ≤ big then if 0 ≤ k ∧ k ≤ 1000 then _ else _ else _) = _
  rw [if_pos h4, if_pos h3]
theorem c_rows {W : Wd} {t : List Nat} (ht : t.length ≤ big) (hn : t ∉ cn0) : ∀ (l : List V) (u1 u2 u3 u4 : Sl), (∀ u ∈ l, ∃ (a : V) (p : List Nat) (ws : List (List Nat)), u = .tup [a, .str p, .tup (ws.map .str)] ∧ ∀ w ∈ ws, p ++ w ∈ cn0) → uf u1 → uf u2 → uf u3 → uf u4 →
    ∃ v1 v2 v3 v4, loopV tg8 (exs W lb8) l [.fr (.str t), u1, u2, u3, u4] = some (.nx [.fr (.str t), v1, v2, v3, v4]) ∧ uf v4
  | [], u1, u2, u3, u4, _, _, _, _, h4 => ⟨u1, u2, u3, u4, rfl, h4⟩
  | u :: l, u1, u2, u3, u4, h, h1, h2, h3, h4 => by
    obtain ⟨a, p, ws, rfl, hw⟩ := h u (List.mem_cons_self ..)
    obtain ⟨v1, v2, v3, v4, hσ, h4'⟩ := c_rows (W := W) ht hn l (.fr a) (.fr (.str p)) (.fr (.tup (ws.map .str))) u4 (fun v hv => h v (List.mem_cons_of_mem _ hv)) uf_fr uf_fr uf_fr h4
    refine ⟨v1, v2, v3, v4, ?_, h4'⟩
    have st : storeG [.fr (.str t), u1, u2, u3, u4] tg8 (.tup [a, .str p, .tup (ws.map .str)]) = some [.fr (.str t), .fr a, .fr (.str p), .fr (.tup (ws.map .str)), u4] := (storeT3 (u := u1) (w := u2) (z := u3) rfl h1 rfl h2 rfl h3).trans rfl
    refine (loopV_cons st ?_).trans hσ
    refine (exs_nx ((ex_if_f ((tv_and (x := decide (t.take 4 = p)) (y := decide (t.drop 4 ∈ ws)) (tv_cmp (x := .str (t.take 4)) (y := .str p) (ev_slTo (k := 4) rfl rfl (by decide) ht) rfl (cmpS_eq _ _)) fun _ => tv_cmp (x := .str (t.drop 4)) (y := .tup (ws.map .str)) (ev_slFr (k := 4) rfl rfl (by decide) ht) rfl (in_strs _ _)).trans ?_)).trans exs_nil)).trans exs_nil
    congr 1
    by_cases q1 : t.take 4 = p
    · by_cases q2 : t.drop 4 ∈ ws
      · exfalso
        have := hw _ q2
        rw [← q1, List.take_append_drop] at this
        exact hn this
      · simp [q2]
    · simp [q1]
theorem c_names {W : Wd} (c7 : W.g 7 = some gNAMES) (c14 : W.g 14 = some (.int 28)) {t : List Nat} {u1 u2 u3 : Sl} : ∀ (l : List Int) (u4 : Sl), (∀ k ∈ l, ∃ s, subV gNAMES (.int k) = some (.str s) ∧ s ≠ t) → uf u4 →
    ∃ v4, loopV tg8' (exs W lb8') (l.map .int) [.fr (.str t), u1, u2, u3, u4] = some (.nx [.fr (.str t), u1, u2, u3, v4])
  | [], u4, _, _ => ⟨u4, rfl⟩
  | k :: l, u4, h, h4 => by
    obtain ⟨s, e, hs⟩ := h k (List.mem_cons_self ..)
    obtain ⟨v4, hσ⟩ := c_names c7 c14 (t := t) (u1 := u1) (u2 := u2) (u3 := u3) l (.fr (.int k)) (fun v hv => h v (List.mem_cons_of_mem _ hv)) uf_fr
    refine ⟨v4, ?_⟩
    have st : storeG [.fr (.str t), u1, u2, u3, u4] tg8' (.int k) = some [.fr (.str t), u1, u2, u3, .fr (.int k)] := (storeF_uf (σ := [.fr (.str t), u1, u2, u3, u4]) (i := 4) (u := u4) rfl h4).trans rfl
    have hl : ∀ (σ : Sg), σ = [.fr (.str t), u1, u2, u3, .fr (.int k)] → locV (full σ) 0 = some (.str t) ∧ locV (full σ) 4 = some (.int k) := fun σ h => by subst h; exact ⟨rfl, rfl⟩
    refine (loopV_cons st ?_).trans hσ
    refine (exs_nx ((ex_if_f ((tv_and (x := false) (y := false) (tv_cmp (x := .str s) (y := .str t) (ev_sub (x := gNAMES) (y := .int k) (ev_glo c7) rfl e) rfl ((cmpS_eq _ _).trans (by rw [decide_eq_false hs]))) fun z => by cases z))).trans exs_nil)).trans exs_nil
noncomputable def rowS : V → List Nat × List (List Nat)
  | .tup [_, .str p, .tup ws] => (p, ws.map fun w => match w with
    | .str s => s
    | _ => [])
  | _ => ([], [])
noncomputable def rowsS : List (List Nat × List (List Nat)) := rowsL.map rowS
noncomputable def keysN : List Int := match gNAMES with
  | .dI ks _ => ks
  | _ => []
theorem rows_in : ∀ u ∈ rowsL, ∃ (a : V) (p : List Nat) (ws : List (List Nat)), u = .tup [a, .str p, .tup (ws.map .str)] ∧ ∀ w ∈ ws, p ++ w ∈ cn0 := by
  have key : ∀ r ∈ rowsS, ∀ w ∈ r.2, r.1 ++ w ∈ cn0 := by decide +kernel
  intro u hu
  have hm : rowS u ∈ rowsS := List.mem_map.mpr ⟨u, hu, rfl⟩
  have k := key _ hm
  simp only [rowsL, gROWS, List.mem_cons, List.not_mem_nil, or_false] at hu
  rcases hu with rfl | rfl | rfl | rfl <;> exact ⟨_, _, _, rfl, k⟩
theorem names_in : ∀ k ∈ keysN, ∃ s, subV gNAMES (.int k) = some (.str s) ∧ s ∈ cn0 := by
  have key : (keysN.all fun k => match subV gNAMES (.int k) with
    | some (.str s) => decide (s ∈ cn0)
    | _ => false) = true := by decide +kernel
  intro k hk
  have := List.all_eq_true.mp key k hk
  split at this
  · rename_i s e
    exact ⟨s, e, of_decide_eq_true this⟩
  · cases this
/-- a text that is no name has no code -/
theorem code_none {W : Wd} (hg : W.g = gl) {t : List Nat} (ht : t.length ≤ big) (hn : t ∉ cn0) : runB W fd8 [.str t] = some .none := by
  have c6 : (cut W fd8).g 6 = some gROWS := cut_g rfl (by rw [hg]; rfl)
  have c7 : (cut W fd8).g 7 = some gNAMES := cut_g rfl (by rw [hg]; rfl)
  have c14 : (cut W fd8).g 14 = some (.int 28) := cut_g rfl (by rw [hg]; rfl)
  obtain ⟨v1, v2, v3, v4, e1, h4⟩ := c_rows (W := cut W fd8) ht hn rowsL .un .un .un .un rows_in uf_un uf_un uf_un uf_un
  obtain ⟨w4, e2⟩ := c_names c7 c14 (t := t) (u1 := v1) (u2 := v2) (u3 := v3) keysN v4 (fun k hk => by
    obtain ⟨s, h1, h2⟩ := names_in k hk
    exact ⟨s, h1, fun z => hn (z ▸ h2)⟩) h4
  refine runB_of rfl ?_
  show exs (cut W fd8) bd8 [.fr (.str t), .un, .un, .un, .un] = _
  refine (exs_nx ((ex_fr (v := gROWS) (l := rowsL) (evA_of (ev_glo c6)) rfl rfl).trans e1)).trans ?_
  refine (exs_nx ((ex_fr (v := gNAMES) (l := keysN.map .int) (evA_of (ev_glo c7)) rfl rfl).trans e2)).trans ?_
  exact exs_rt rfl
noncomputable def ckCode (t : List Nat) : Bool := match (WL 4).f 8 [.str t], methV 0 cdV (.str t) with
  | some a, some b => match cmpB .NotEq a b with
    | some c => !c
    | none => false
  | _, _ => false
theorem ck_n1 : (cn0.take 45).all ckCode = true := by kernel_rfl
theorem ck_n2 : ((cn0.drop 45).take 40).all ckCode = true := by kernel_rfl
theorem ck_n3 : ((cn0.drop 45).drop 40).all ckCode = true := by kernel_rfl
theorem all_cut {α : Type} {p : α → Bool} {l : List α} (n : Nat) (h1 : (l.take n).all p = true) (h2 : (l.drop n).all p = true) : l.all p = true := by
  rw [← List.take_append_drop n l, List.all_append, h1, h2]; rfl
theorem ck_names : cn0.all ckCode = true := all_cut 45 ck_n1 (all_cut 40 ck_n2 ck_n3)
theorem lookS_no {t : List Nat} : ∀ (ks : List (List Nat)) (vs : List V), t ∉ ks → lookS ks vs t = none
  | [], vs, _ => by cases vs <;> rfl
  | k :: ks, [], _ => rfl
  | k :: ks, v :: vs, h => by
    have : k ≠ t := fun q => h (q ▸ List.mem_cons_self ..)
    simp only [lookS, if_neg this]
    exact lookS_no ks vs fun z => h (List.mem_cons_of_mem _ z)
theorem code_all (t : List Nat) (ht : t.length ≤ big) : ∃ a b, (WL 4).f 8 [.str t] = some a ∧ methV 0 cdV (.str t) = some b ∧ cmpB .NotEq a b = some false := by
  by_cases hn : t ∈ cn0
  · have h := List.all_eq_true.mp ck_names t hn
    unfold ckCode at h
    split at h
    · rename_i a b e1 e2
      split at h
      · rename_i c e3
        cases c
        · exact ⟨a, b, e1, e2, e3⟩
        · cases h
      · cases h
    · cases h
  · refine ⟨.none, .none, (wl_f (by decide) rfl).trans (code_none (wl_g 3) ht hn), ?_, rfl⟩
    show some ((lookS cn0 cv0 t).getD .none) = _
    rw [lookS_no _ _ hn]; rfl
end Mine

namespace Mine
noncomputable def takeS : Nat → Ss → Ss
  | n + 1, .cons s l => .cons s (takeS n l)
  | _, _ => .nil
noncomputable def dropS : Nat → Ss → Ss
  | n + 1, .cons _ l => dropS n l
  | _, l => l
theorem exs_cut {W : Wd} : ∀ (n : Nat) (l : Ss) (σ σ' : Sg), exs W (takeS n l) σ = some (.nx σ') → exs W l σ = exs W (dropS n l) σ'
  | 0, l, σ, σ', e => by
    have e : some (Oc.nx σ) = some (.nx σ') := by cases l <;> exact e
    cases e
    cases l <;> rfl
  | n + 1, .nil, σ, σ', e => by
    have e : some (Oc.nx σ) = some (.nx σ') := e
    cases e
    rfl
  | n + 1, .cons s l, σ, σ', e => by
    have e : (match ex W s σ with
      | some (.nx σ) => exs W (takeS n l) σ
      | some (.rt v) => some (.rt v)
      | none => none) = some (.nx σ') := e
    show (match ex W s σ with
      | some (.nx σ) => exs W l σ
      | some (.rt v) => some (.rt v)
      | none => none) = exs W (dropS n l) σ'
    split at e
    · rename_i σ1 h
      exact exs_cut n l σ1 σ' e
    · cases e
    · cases e
theorem loopV_app {t : Tg} {body : Sg → Option Oc} : ∀ (a b : List V) (σ σ' : Sg), loopV t body a σ = some (.nx σ') → loopV t body (a ++ b) σ = loopV t body b σ'
  | [], b, σ, σ', e => by cases e; rfl
  | v :: a, b, σ, σ', e => by
    rw [loopV] at e
    rw [List.cons_append, loopV]
    split at e
    · cases e
    · rename_i σ1 h
      split at e
      · rename_i σ2 h2
        exact loopV_app a b σ2 σ' e
      · cases e
      · cases e
theorem loopV_cut {t : Tg} {body : Sg → Option Oc} {l : List V} {σ σ' : Sg} (n : Nat) (h : loopV t body (l.take n) σ = some (.nx σ')) : loopV t body l σ = loopV t body (l.drop n) σ' := by
  have := loopV_app _ (l.drop n) _ _ h
  rwa [List.take_append_drop] at this
noncomputable def W10 : Wd := cut (WL 3) fd10
noncomputable def mid10 : Sg := match exs W10 (takeS 7 bd10) (List.replicate 12 .un) with
  | some (.nx σ) => σ
  | _ => []
noncomputable def rows10 : List V := match mid10[5]? with
  | some (Sl.fr (V.lst l)) => l
  | _ => []
noncomputable def lb10 : Ss := bodyOf (sN bd10 7)
noncomputable def tg10 : Tg := tgOf (sN bd10 7)
noncomputable def mn1 : Sg := mid10.take 6 ++ [.ow (.dI (kn0.take 106) (vn0.take 106)), .fr (.int 103), .fr (.str [105, 51, 50, 46]), .fr (.str [99, 108, 122, 32, 99, 116, 122, 32, 112, 111, 112, 99, 110, 116, 32, 97, 100, 100, 32, 115, 117, 98, 32, 109, 117, 108, 32, 100, 105, 118, 95, 115, 32, 100, 105, 118, 95, 117, 32, 114, 101, 109, 95, 115, 32, 114, 101, 109, 95, 117, 32, 97, 110, 100, 32, 111, 114, 32, 120, 111, 114, 32, 115, 104, 108, 32, 115, 104, 114, 95, 115, 32, 115, 104, 114, 95, 117, 32, 114, 111, 116, 108, 32, 114, 111, 116, 114]), .fr (.int 17), .fr (.str [114, 111, 116, 114])]
noncomputable def mn2 : Sg := mid10.take 6 ++ [.ow (.dI (kn0.take 157) (vn0.take 157)), .fr (.int 167), .fr (.str [105, 51, 50, 46]), .fr (.str [119, 114, 97, 112, 95, 105, 54, 52, 32, 116, 114, 117, 110, 99, 95, 102, 51, 50, 95, 115, 32, 116, 114, 117, 110, 99, 95, 102, 51, 50, 95, 117, 32, 116, 114, 117, 110, 99, 95, 102, 54, 52, 95, 115, 32, 116, 114, 117, 110, 99, 95, 102, 54, 52, 95, 117]), .fr (.int 4), .fr (.str [116, 114, 117, 110, 99, 95, 102, 54, 52, 95, 117])]
theorem nm_pre : exs W10 (takeS 7 bd10) (List.replicate 12 .un) = some (.nx mid10) := by kernel_rfl
theorem nm_c1 : loopV tg10 (exs W10 lb10) (rows10.take 16) mid10 = some (.nx mn1) := by kernel_rfl
theorem nm_c2 : loopV tg10 (exs W10 lb10) ((rows10.drop 16).take 4) mn1 = some (.nx mn2) := by kernel_rfl
noncomputable def thenS (o : Option Oc) (f : Sg → Option Oc) : Option Oc := match o with
  | some (.nx σ) => f σ
  | _ => none
theorem nm_c3 : thenS (loopV tg10 (exs W10 lb10) ((rows10.drop 16).drop 4) mn2) (exs W10 (dropS 8 bd10)) = some (.rt nmV) := by kernel_rfl
theorem nm_it : evA W10 mid10 (.loc 5 (P 129 30 129 34)) = some (.lst rows10) ∧ itV (.lst rows10) = some rows10 := ⟨by kernel_rfl, by kernel_rfl⟩
theorem exs_thenS {W : Wd} {s : S} {l : Ss} {σ : Sg} {v : V} (h : thenS (ex W s σ) (exs W l) = some (.rt v)) : exs W (.cons s l) σ = some (.rt v) := by
  unfold thenS at h
  split at h
  · rename_i σ1 e
    exact (exs_nx e).trans h
  · cases h
theorem nm_loop0 : ex W10 (sN bd10 7) mid10 = loopV tg10 (exs W10 lb10) rows10 mid10 := by
  have h := nm_it
  exact ex_fr h.1 h.2 rfl
theorem nm_ok : ev (WC 4) [] e20 = some nmV := by
  have e1 : exs W10 bd10 (List.replicate 12 .un) = some (.rt nmV) := by
    refine (exs_cut 7 bd10 _ _ nm_pre).trans ?_
    refine exs_thenS (s := sN bd10 7) (l := dropS 8 bd10) ?_
    rw [nm_loop0, loopV_cut 16 nm_c1, loopV_cut 4 nm_c2]
    exact nm_c3
  exact (ev_call (xs := []) rfl ((wc_f (by decide)).trans ((wl_f (by decide) rfl).trans (runB_of (F := fd10) rfl e1))) : ev (WC 4) [] (.call 10 .nil _ _) = _)
noncomputable def W12 : Wd := cut (WL 3) fd12
noncomputable def lb12 : Ss := bodyOf (sN bd12 1)
noncomputable def tg12 : Tg := tgOf (sN bd12 1)
noncomputable def mc (m : Nat) (u : Sl) : Sg := [.fr nmV, .ow (.dS (cn0.take m) (cv0.take m)), u]
theorem cd_c1 : loopV tg12 (exs W12 lb12) (((kn0.map V.int)).take 60) (mc 0 .un) = some (.nx (mc 53 (.fr (.int 74)))) := by kernel_rfl
theorem cd_c2 : loopV tg12 (exs W12 lb12) (((kn0.map V.int).drop 60).take 50) (mc 53 (.fr (.int 74))) = some (.nx (mc 91 (.fr (.int 124)))) := by kernel_rfl
theorem cd_c3 : loopV tg12 (exs W12 lb12) ((((kn0.map V.int).drop 60).drop 50).take 40) (mc 91 (.fr (.int 124))) = some (.nx (mc 105 (.fr (.int 164)))) := by kernel_rfl
theorem cd_c4 : thenS (loopV tg12 (exs W12 lb12) ((((kn0.map V.int).drop 60).drop 50).drop 40) (mc 105 (.fr (.int 164)))) (exs W12 (dropS 2 bd12)) = some (.rt cdV) := by kernel_rfl
theorem cd_it : evA W12 (mc 0 .un) (.loc 0 (P 137 16 137 21)) = some nmV ∧ itV nmV = some (kn0.map V.int) := ⟨by kernel_rfl, by kernel_rfl⟩
theorem cd_loop0 : ex W12 (sN bd12 1) (mc 0 .un) = loopV tg12 (exs W12 lb12) (kn0.map V.int) (mc 0 .un) := by
  have h := cd_it
  exact ex_fr h.1 h.2 rfl
theorem cd_ok : (WL 4).f 12 [nmV] = some cdV := by
  have e1 : exs W12 bd12 [.fr nmV, .un, .un] = some (.rt cdV) := by
    refine (exs_nx (st := sN bd12 0) (σ' := mc 0 .un) rfl).trans ?_
    refine exs_thenS (s := sN bd12 1) (l := dropS 2 bd12) ?_
    rw [cd_loop0, loopV_cut 60 cd_c1, loopV_cut 50 cd_c2, loopV_cut 40 cd_c3]
    exact cd_c4
  exact (wl_f (by decide) rfl).trans (runB_of (F := fd12) rfl e1)
end Mine

namespace Mine
noncomputable def manyN : Nat := 203
theorem many_ok : vn0.length = manyN := by decide +kernel
noncomputable def isW (v : V) : Prop := ∃ s, v = .str s ∧ s.length ≤ 100
theorem words_ok : ∀ v ∈ vn0, isW v := by
  have key : (vn0.all fun v => match v with
    | .str s => decide (s.length ≤ 100)
    | _ => false) = true := by decide +kernel
  intro v hv
  have := List.all_eq_true.mp key v hv
  split at this
  · exact ⟨_, rfl, of_decide_eq_true this⟩
  · cases this
theorem word_at {i : Int} (h0 : 0 ≤ i) (h1 : i < manyN) : ∃ s, subV (.lst vn0) (.int i) = some (.str s) ∧ s.length ≤ 100 := by
  obtain ⟨v, e, s, rfl, h⟩ := subV_all (P := isW) (l := vn0) (i := i) (n := manyN) h0 h1 many_ok (by decide) words_ok
  exact ⟨s, e, h⟩
noncomputable def lb20 : Ss := bodyOf (sN bd20c 1)
noncomputable def tg20c : Tg := tgOf (sN bd20c 1)
noncomputable abbrev st20 (vs vt vb : V) (u5 u8 u9 u10 u11 : Sl) : Sg := [.fr vs, .fr vt, .fr vb, .cl nmV, .fr cdV, u5, .fr (.lst vn0), .fr (.int manyN), u8, u9, u10, u11]
theorem tv_not {W : Wd} {r : List (Option V)} {a : E} {p : Pos} {x : Bool} (h : tv W r a = some x) : tv W r (.not a p) = some (!x) := by
  rw [tv, h]; rfl
theorem binV_mod {a b : Int} (h : 0 < b ∧ b < 1000000) : binV .Mod (.int a) (.int b) = some (.int (a % b)) := if_pos h
theorem binV_div {a b : Int} (h : 0 < b ∧ b < 1000000) : binV .FloorDiv (.int a) (.int b) = some (.int (a / b)) := if_pos h
theorem l_step {vs vt vb : V} {x : Int} {u5 u9 u10 u11 : Sl} (h5 : uf u5) (h9 : uf u9) (h10 : uf u10) (h11 : uf u11) :
    ∃ w5 w9 w10 w11, exs (WC 4) lb20 (st20 vs vt vb u5 (.fr (.int x)) u9 u10 u11) = some (.nx (st20 vs vt vb (.fr w5) (.fr (.int x)) (.fr w9) (.fr w10) (.fr w11))) := by
  have T : ∀ y : Int, (WC 4).f 16 [.int y, nmV, cdV] = some (.bool true) := fun y => (wc_f (by decide)).trans (told_all y)
  obtain ⟨code, hc⟩ : ∃ code : Int, code = if x % 300 < 256 then x % 300 else 64512 + x % 300 - 256 := ⟨_, rfl⟩
  obtain ⟨k0, e1, k, rfl, k1, k2⟩ := subV_all (P := fun v => ∃ k : Int, v = .int k ∧ 0 ≤ k ∧ k ≤ 1000) (l := [.int 4, .int 20, .int 0, .int 3, .int 5, .int 6, .int 7, .int 8]) (i := x / 7 % 8) (n := 8) (by omega) (by omega) rfl (by omega) (by
    intro v hv
    simp only [List.mem_cons, List.not_mem_nil, or_false] at hv
    rcases hv with rfl | rfl | rfl | rfl | rfl | rfl | rfl | rfl <;> exact ⟨_, rfl, by decide, by decide⟩)
  have mm : (0 : Int) < (manyN : Int) ∧ (manyN : Int) < 1000000 := by decide
  have mn : (manyN : Int) ≠ 0 := by decide
  obtain ⟨s1, e2, l1⟩ := word_at (i := x % manyN) (Int.emod_nonneg _ mn) (Int.emod_lt_of_pos _ mm.1)
  obtain ⟨s2, e3, l2⟩ := word_at (i := x / manyN % manyN) (Int.emod_nonneg _ mn) (Int.emod_lt_of_pos _ mm.1)
  have lt1 : (s1.take k.toNat).length ≤ 100 := by rw [List.length_take]; omega
  have lt2 : (s2.drop k.toNat).length ≤ 100 := by rw [List.length_drop]; omega
  have lt : (s1.take k.toNat ++ s2.drop k.toNat).length ≤ big := by
    rw [List.length_append]; unfold big; omega
  obtain ⟨a, b, e4, e5, e6⟩ := code_all (s1.take k.toNat ++ s2.drop k.toNat) lt
  have f8 : (WC 4).f 8 [.str (s1.take k.toNat ++ s2.drop k.toNat)] = some a := (wc_f (by decide)).trans e4
  have ad : binV .Add (.str (s1.take k.toNat)) (.str (s2.drop k.toNat)) = some (.str (s1.take k.toNat ++ s2.drop k.toNat)) := by
    show (if _ ≤ big then _ else _) = _
    rw [if_pos (by rw [List.length_append] at lt; exact lt)]
  refine ⟨.int code, .int (x % 300), .int k, .str (s1.take k.toNat ++ s2.drop k.toNat), ?_⟩
  have sb : s1.length ≤ big := by unfold big; omega
  have sb2 : s2.length ≤ big := by unfold big; omega
  refine (exs_nx (ex_asg (v := .int (x % 300)) (σ' := st20 vs vt vb u5 (.fr (.int x)) (.fr (.int (x % 300))) u10 u11) (evA_of (ev_bin (x := .int x) (y := .int 300) rfl rfl (binV_mod (by decide)))) ((storeF_uf (u := u9) rfl h9).trans rfl))).trans ?_
  refine (exs_nx (ex_asg (v := .int code) (σ' := st20 vs vt vb (.fr (.int code)) (.fr (.int x)) (.fr (.int (x % 300))) u10 u11) (evA_of ?_) ((storeF_uf (u := u5) rfl h5).trans rfl))).trans ?_
  · have tt : tv (WC 4) (frz (st20 vs vt vb u5 (.fr (.int x)) (.fr (.int (x % 300))) u10 u11)) (.cmp (.loc 9 (P 271 23 271 27)) .Lt (.int 256 0 (P 271 30 271 33)) (P 271 23 271 33)) = some (decide (x % 300 < 256)) := tv_cmp (x := .int (x % 300)) (y := .int 256) rfl rfl rfl
    by_cases q : x % 300 < 256
    · rw [if_pos q] at hc
      rw [hc]
      exact ev_iteT (tt.trans (by rw [decide_eq_true q])) rfl
    · rw [if_neg q] at hc
      rw [hc]
      exact ev_iteF (tt.trans (by rw [decide_eq_false q])) rfl
  refine (exs_nx ((ex_if_f (tv_or (x := false) (y := false) (tv_not (tv_call (xs := [.int x, nmV, cdV]) rfl (T x))) fun _ => tv_not (tv_call (xs := [.int code, nmV, cdV]) rfl (T code)))).trans exs_nil)).trans ?_
  refine (exs_nx (ex_asg (v := .int k) (σ' := st20 vs vt vb (.fr (.int code)) (.fr (.int x)) (.fr (.int (x % 300))) (.fr (.int k)) u11) (evA_of (ev_sub rfl rfl e1)) ((storeF_uf (u := u10) rfl h10).trans rfl))).trans ?_
  refine (exs_nx (ex_asg (v := .str (s1.take k.toNat ++ s2.drop k.toNat)) (σ' := st20 vs vt vb (.fr (.int code)) (.fr (.int x)) (.fr (.int (x % 300))) (.fr (.int k)) (.fr (.str (s1.take k.toNat ++ s2.drop k.toNat)))) (evA_of ?_) ((storeF_uf (u := u11) rfl h11).trans rfl))).trans ?_
  · refine ev_bin (ev_slTo (k := k) (ev_sub (x := .lst vn0) (y := .int (x % manyN)) rfl (ev_bin (x := .int x) (y := .int manyN) rfl rfl (binV_mod mm)) e2) rfl ⟨k1, k2⟩ sb) (ev_slFr (k := k) (ev_sub (x := .lst vn0) (y := .int (x / manyN % manyN)) rfl (ev_bin (x := .int (x / manyN)) (y := .int manyN) (ev_bin (x := .int x) (y := .int manyN) rfl rfl (binV_div mm)) rfl (binV_mod mm)) e3) rfl ⟨k1, k2⟩ sb2) ad
  exact (exs_nx ((ex_if_f (tv_cmp (x := a) (y := b) (ev_call (xs := [.str (s1.take k.toNat ++ s2.drop k.toNat)]) rfl f8) (ev_meth (x := cdV) (y := .str (s1.take k.toNat ++ s2.drop k.toNat)) rfl rfl rfl e5) e6)).trans exs_nil)).trans exs_nil
theorem l_loop {vs vt vb : V} : ∀ (l : List Int) (u5 u8 u9 u10 u11 : Sl), uf u5 → uf u8 → uf u9 → uf u10 → uf u11 →
    ∃ w5 w8 w9 w10 w11, loopV tg20c (exs (WC 4) lb20) (l.map .int) (st20 vs vt vb u5 u8 u9 u10 u11) = some (.nx (st20 vs vt vb w5 w8 w9 w10 w11))
  | [], u5, u8, u9, u10, u11, _, _, _, _, _ => ⟨u5, u8, u9, u10, u11, rfl⟩
  | x :: l, u5, u8, u9, u10, u11, h5, h8, h9, h10, h11 => by
    obtain ⟨a, b, c, d, e⟩ := l_step (vs := vs) (vt := vt) (vb := vb) (x := x) h5 h9 h10 h11
    obtain ⟨w5, w8, w9, w10, w11, e2⟩ := l_loop (vs := vs) (vt := vt) (vb := vb) l (.fr a) (.fr (.int x)) (.fr b) (.fr c) (.fr d) uf_fr uf_fr uf_fr uf_fr uf_fr
    have st : storeG (st20 vs vt vb u5 u8 u9 u10 u11) tg20c (.int x) = some (st20 vs vt vb u5 (.fr (.int x)) u9 u10 u11) := (storeF_uf (σ := st20 vs vt vb u5 u8 u9 u10 u11) (i := 8) (u := u8) rfl h8).trans rfl
    exact ⟨w5, w8, w9, w10, w11, (loopV_cons st e).trans e2⟩
theorem part_c {vs vb : V} (l : List Int) (hl : l.length ≤ 60) : exs (WC 4) bd20c [.fr vs, .fr (.lst (l.map .int)), .fr vb, .cl nmV, .fr cdV, .un, .fr (.lst vn0), .un, .un, .un, .un, .un] = some (.rt (.bool true)) := by
  obtain ⟨w5, w8, w9, w10, w11, e⟩ := l_loop (vs := vs) (vt := .lst (l.map .int)) (vb := vb) (l.take 8) .un .un .un .un .un uf_un uf_un uf_un uf_un uf_un
  have lb : (l.map V.int).length ≤ big := by rw [List.length_map]; unfold big; omega
  have lv : lenV (.lst vn0) = some (.int manyN) := by
    show (if vn0.length ≤ big then some (V.int vn0.length) else none) = _
    rw [many_ok]; rfl
  have t1 : toV (.lst (l.map V.int)) (.int 8) = some (.lst ((l.take 8).map V.int)) := by
    show (if (0 : Int) ≤ 8 ∧ (8 : Int) ≤ 1000 ∧ (l.map V.int).length ≤ big then _ else _) = _
    rw [if_pos ⟨by decide, by decide, lb⟩, ← List.map_take]
    rfl
  refine (exs_nx (ex_asg (v := .int manyN) (σ' := st20 vs (.lst (l.map .int)) vb .un .un .un .un .un) (evA_of ?_) rfl)).trans ?_
  · exact lv
  refine (exs_nx ((ex_fr (v := .lst ((l.take 8).map .int)) (l := (l.take 8).map .int) (evA_of ?_) ?_ rfl).trans e)).trans ?_
  · exact t1
  · show (if ((l.take 8).map V.int).length ≤ big then _ else _) = _
    rw [if_pos (by rw [List.length_map, List.length_take]; unfold big; omega)]
  · exact exs_rt rfl
theorem plain_ok (ns : List Int) (hn : ns.length ≤ 63) : PlainOk (ns.map .int) := by
  obtain ⟨vb, e1⟩ := part_a ns hn
  have hl : (tl ns).length ≤ 60 := by
    unfold tl
    rw [List.length_append, List.length_take]
    show _ + 4 ≤ 60
    omega
  have c12 : (WC 4).f 12 [nmV] = some cdV := (wc_f (by decide)).trans cd_ok
  refine ⟨_, vb, cdV, kn0, vn0, vn0, by decide +kernel, e1, ?_, ?_, ws_ok, part_c (tl ns) hl⟩
  · exact (show ev (WC 4) _ e20 = ev (WC 4) [] e20 from rfl).trans nm_ok
  · exact (exs_nx (ex_asg (v := cdV) (σ' := [.fr (.lst (ns.map .int)), .fr (.lst ((tl ns).map .int)), .fr vb, .cl nmV, .fr cdV, .un, .un, .un, .un, .un, .un, .un]) (evA_of (ev_call (xs := [nmV]) rfl c12)) rfl)).trans exs_nil
end Mine

namespace Mine
/-- short words for the literals -/
noncomputable abbrev vS (s : String) (t : Nat) : Value := .str (Str.ofString s) t
noncomputable abbrev eS (P : Params) (s : String) (t : Nat) (v : Value) : DictEntry := ⟨PyData.keyHash P (Str.ofString s), .str (Str.ofString s) t, v⟩
/-- the function object of the def at a place of the text -/
noncomputable def fnB (k : Nat) : FuncData := match pw.main.body[k]? with
  | some (.FunctionDef n a b _ _ _ sc _ _ _) => { name := n, qualname := n, params := a, body := .stmts b, scope := sc, globals := 0, closure := [], defaults := .none, kwdefaults := .none }
  | _ => default
noncomputable def o0_A (P : Params) : Obj := ⟨(.type "dict"), none, (.dict (List.toArray [eS P "__name__" 1 (vS "builtins" 160), eS P "__doc__" 2 (.builtin "builtins.__doc__:str#opaque"), eS P "__package__" 3 (.builtin "builtins.__package__:str#opaque"), eS P "__loader__" 4 (.builtin "builtins.__loader__:shared#opaque"), eS P "__spec__" 5 (.builtin "builtins.__spec__#opaque"), eS P "__build_class__" 6 (.builtin "__build_class__"), eS P "__import__" 7 (.builtin "__import__"), eS P "abs" 8 (.builtin "abs"), eS P "all" 9 (.builtin "all"), eS P "any" 10 (.builtin "any"), eS P "ascii" 11 (.builtin "ascii"), eS P "bin" 12 (.builtin "bin"), eS P "breakpoint" 13 (.builtin "breakpoint"), eS P "callable" 14 (.builtin "callable"), eS P "chr" 15 (.builtin "chr"), eS P "compile" 16 (.builtin "compile"), eS P "delattr" 17 (.builtin "delattr"), eS P "dir" 18 (.builtin "dir"), eS P "divmod" 19 (.builtin "divmod"), eS P "eval" 20 (.builtin "eval"), eS P "exec" 21 (.builtin "exec"), eS P "format" 22 (.builtin "format"), eS P "getattr" 23 (.builtin "getattr"), eS P "globals" 24 (.builtin "globals"), eS P "hasattr" 25 (.builtin "hasattr"), eS P "hash" 26 (.builtin "hash"), eS P "hex" 27 (.builtin "hex"), eS P "id" 28 (.builtin "id"), eS P "input" 29 (.builtin "input"), eS P "isinstance" 30 (.builtin "isinstance"), eS P "issubclass" 31 (.builtin "issubclass"), eS P "iter" 32 (.builtin "iter"), eS P "aiter" 33 (.builtin "aiter"), eS P "len" 34 (.builtin "len"), eS P "locals" 35 (.builtin "locals"), eS P "max" 36 (.builtin "max"), eS P "min" 37 (.builtin "min"), eS P "next" 38 (.builtin "next"), eS P "anext" 39 (.builtin "anext"), eS P "oct" 40 (.builtin "oct"), eS P "ord" 41 (.builtin "ord"), eS P "pow" 42 (.builtin "pow"), eS P "print" 43 (.builtin "print"), eS P "repr" 44 (.builtin "repr"), eS P "round" 45 (.builtin "round"), eS P "setattr" 46 (.builtin "setattr"), eS P "sorted" 47 (.builtin "sorted"), eS P "sum" 48 (.builtin "sum"), eS P "vars" 49 (.builtin "vars"), eS P "None" 50 .none, eS P "Ellipsis" 51 .ellipsis, eS P "NotImplemented" 52 .notImplemented, eS P "False" 53 (.bool false), eS P "True" 54 (.bool true), eS P "bool" 55 (.type "bool"), eS P "memoryview" 56 (.type "memoryview"), eS P "bytearray" 57 (.type "bytearray"), eS P "bytes" 58 (.type "bytes"), eS P "classmethod" 59 (.type "classmethod"), eS P "complex" 60 (.type "complex"), eS P "dict" 61 (.type "dict"), eS P "enumerate" 62 (.type "enumerate"), eS P "filter" 63 (.type "filter"), eS P "float" 64 (.type "float"), eS P "frozenset" 65 (.type "frozenset"), eS P "property" 66 (.type "property"), eS P "int" 67 (.type "int"), eS P "list" 68 (.type "list"), eS P "map" 69 (.type "map"), eS P "object" 70 (.type "object"), eS P "range" 71 (.type "range"), eS P "reversed" 72 (.type "reversed"), eS P "set" 73 (.type "set"), eS P "slice" 74 (.type "slice"), eS P "staticmethod" 75 (.type "staticmethod"), eS P "str" 76 (.type "str"), eS P "super" 77 (.type "super"), eS P "tuple" 78 (.type "tuple"), eS P "type" 79 (.type "type"), eS P "zip" 80 (.type "zip"), eS P "__debug__" 81 (.bool true), eS P "BaseException" 82 (.type "BaseException"), eS P "BaseExceptionGroup" 83 (.type "BaseExceptionGroup"), eS P "Exception" 84 (.type "Exception"), eS P "GeneratorExit" 85 (.type "GeneratorExit"), eS P "KeyboardInterrupt" 86 (.type "KeyboardInterrupt"), eS P "SystemExit" 87 (.type "SystemExit"), eS P "ArithmeticError" 88 (.type "ArithmeticError"), eS P "AssertionError" 89 (.type "AssertionError"), eS P "AttributeError" 90 (.type "AttributeError"), eS P "BufferError" 91 (.type "BufferError"), eS P "EOFError" 92 (.type "EOFError"), eS P "ImportError" 93 (.type "ImportError"), eS P "LookupError" 94 (.type "LookupError"), eS P "MemoryError" 95 (.type "MemoryError"), eS P "NameError" 96 (.type "NameError"), eS P "OSError" 97 (.type "OSError"), eS P "ReferenceError" 98 (.type "ReferenceError"), eS P "RuntimeError" 99 (.type "RuntimeError"), eS P "StopAsyncIteration" 100 (.type "StopAsyncIteration"), eS P "StopIteration" 101 (.type "StopIteration"), eS P "SyntaxError" 102 (.type "SyntaxError"), eS P "SystemError" 103 (.type "SystemError"), eS P "TypeError" 104 (.type "TypeError"), eS P "ValueError" 105 (.type "ValueError"), eS P "Warning" 106 (.type "Warning"), eS P "FloatingPointError" 107 (.type "FloatingPointError"), eS P "OverflowError" 108 (.type "OverflowError"), eS P "ZeroDivisionError" 109 (.type "ZeroDivisionError"), eS P "BytesWarning" 110 (.type "BytesWarning"), eS P "DeprecationWarning" 111 (.type "DeprecationWarning"), eS P "EncodingWarning" 112 (.type "EncodingWarning"), eS P "FutureWarning" 113 (.type "FutureWarning"), eS P "ImportWarning" 114 (.type "ImportWarning"), eS P "PendingDeprecationWarning" 115 (.type "PendingDeprecationWarning"), eS P "ResourceWarning" 116 (.type "ResourceWarning"), eS P "RuntimeWarning" 117 (.type "RuntimeWarning"), eS P "SyntaxWarning" 118 (.type "SyntaxWarning"), eS P "UnicodeWarning" 119 (.type "UnicodeWarning"), eS P "UserWarning" 120 (.type "UserWarning"), eS P "BlockingIOError" 121 (.type "BlockingIOError"), eS P "ChildProcessError" 122 (.type "ChildProcessError"), eS P "ConnectionError" 123 (.type "ConnectionError"), eS P "FileExistsError" 124 (.type "FileExistsError"), eS P "FileNotFoundError" 125 (.type "FileNotFoundError"), eS P "InterruptedError" 126 (.type "InterruptedError"), eS P "IsADirectoryError" 127 (.type "IsADirectoryError"), eS P "NotADirectoryError" 128 (.type "NotADirectoryError"), eS P "PermissionError" 129 (.type "PermissionError"), eS P "ProcessLookupError" 130 (.type "ProcessLookupError"), eS P "TimeoutError" 131 (.type "TimeoutError"), eS P "IndentationError" 132 (.type "IndentationError"), eS P "_IncompleteInputError" 133 (.type "_IncompleteInputError"), eS P "IndexError" 134 (.type "IndexError"), eS P "KeyError" 135 (.type "KeyError"), eS P "ModuleNotFoundError" 136 (.type "ModuleNotFoundError"), eS P "NotImplementedError" 137 (.type "NotImplementedError"), eS P "PythonFinalizationError" 138 (.type "PythonFinalizationError"), eS P "RecursionError" 139 (.type "RecursionError"), eS P "UnboundLocalError" 140 (.type "UnboundLocalError"), eS P "UnicodeError" 141 (.type "UnicodeError"), eS P "BrokenPipeError" 142 (.type "BrokenPipeError"), eS P "ConnectionAbortedError" 143 (.type "ConnectionAbortedError"), eS P "ConnectionRefusedError" 144 (.type "ConnectionRefusedError"), eS P "ConnectionResetError" 145 (.type "ConnectionResetError"), eS P "TabError" 146 (.type "TabError"), eS P "UnicodeDecodeError" 147 (.type "UnicodeDecodeError"), eS P "UnicodeEncodeError" 148 (.type "UnicodeEncodeError"), eS P "UnicodeTranslateError" 149 (.type "UnicodeTranslateError"), eS P "ExceptionGroup" 150 (.type "ExceptionGroup"), eS P "EnvironmentError" 151 (.type "OSError"), eS P "IOError" 152 (.type "OSError"), eS P "open" 153 (.builtin "open"), eS P "quit" 154 (.builtin "builtins.quit#opaque"), eS P "exit" 155 (.builtin "builtins.exit#opaque"), eS P "copyright" 156 (.builtin "builtins.copyright#opaque"), eS P "credits" 157 (.builtin "builtins.credits#opaque"), eS P "license" 158 (.builtin "builtins.license#opaque"), eS P "help" 159 (.builtin "builtins.help#opaque")]) 159), List.toArray []⟩
noncomputable def o1_A (P : Params) : Obj := ⟨(.type "dict"), none, (.dict (List.toArray [eS P "builtins" 162 (.ref 4), eS P "__main__" 163 (.ref 5)]) 2), List.toArray []⟩
noncomputable def o2_A (P : Params) : Obj := ⟨.none, none, (.dict (List.toArray []) 0), List.toArray []⟩
noncomputable def o3_A (P : Params) : Obj := ⟨(.type "dict"), none, (.dict (List.toArray [eS P "__name__" 165 (vS "__main__" 164), eS P "__doc__" 166 .none, eS P "__package__" 167 .none, eS P "__loader__" 168 (.builtin "__main__.__loader__#opaque"), eS P "__spec__" 169 .none, eS P "__annotations__" 170 (.ref 6), eS P "__builtins__" 171 (.ref 4), eS P "__file__" 173 (vS "/claim/cut.py" 172), eS P "__cached__" 174 .none]) 9), List.toArray []⟩
noncomputable def o4_A (P : Params) : Obj := ⟨(.type "module"), (some 0), .plain, List.toArray []⟩
noncomputable def o5_A (P : Params) : Obj := ⟨(.type "module"), (some 3), .plain, List.toArray []⟩
noncomputable def o6_A (P : Params) : Obj := ⟨(.type "dict"), none, (.dict (List.toArray []) 0), List.toArray []⟩
noncomputable def o7_A (P : Params) : Obj := ⟨(.type "tuple"), none, (.seq (List.toArray []) 0), List.toArray []⟩
noncomputable def o8_A (P : Params) : Obj := ⟨.none, none, (.fields (List.toArray [])), List.toArray []⟩
noncomputable def o9_A (P : Params) : Obj := ⟨(.type "code"), none, (.fields (List.toArray [(vS "<module>" 176), (vS "<module>" 177), (vS "/claim/cut.py" 178), (.int 1 0), (.int 0 0), (.int 0 0), (.int 0 0), (.int 0 0), (.ref 7), (.bool false), (.int 175 0), (.ref 8), .none, .none, .none, .none, (.int 179 0), (.int 1 0), (vS "/claim/cut.py" 180)])), List.toArray []⟩
noncomputable def o10_A (P : Params) : Obj := ⟨(.type "frame"), none, .plain, List.toArray [(some (.ref 9)), (some (.ref 3)), (some (.ref 3)), none, (some (vS "__main__" 164)), none, (some (.ref 0))]⟩
noncomputable def o11_A (P : Params) : Obj := ⟨(.type "tuple"), none, (.seq (List.toArray []) 0), List.toArray []⟩
noncomputable def o12_A (P : Params) : Obj := ⟨.none, none, (.fields (List.toArray [])), List.toArray []⟩
noncomputable def o13_A (P : Params) : Obj := ⟨(.type "code"), none, (.fields (List.toArray [(vS "<module>" 182), (vS "<module>" 183), (vS "/claim/cut.py" 184), (.int 1 0), (.int 0 0), (.int 0 0), (.int 0 0), (.int 0 0), (.ref 11), (.bool false), (.int 181 0), (.ref 12), .none, .none, .none, .none, (.int 185 0), (.int 1 0), (vS "/claim/cut.py" 186)])), List.toArray []⟩
noncomputable def o14_A (P : Params) : Obj := ⟨(.type "frame"), none, .plain, List.toArray [(some (.ref 13)), (some (.ref 3)), (some (.ref 3)), none, (some (vS "__main__" 164)), none, (some (.ref 0))]⟩
noncomputable def trA (P : Params) : BT := (.node (o0_A P) (.node (o1_A P) (.node (o3_A P) (.node (o7_A P) .nil .nil) (.node (o11_A P) .nil .nil)) (.node (o5_A P) (.node (o9_A P) .nil .nil) (.node (o13_A P) .nil .nil))) (.node (o2_A P) (.node (o4_A P) (.node (o8_A P) .nil .nil) (.node (o12_A P) .nil .nil)) (.node (o6_A P) (.node (o10_A P) .nil .nil) (.node (o14_A P) .nil .nil))))
noncomputable abbrev stA (P : Params) (os : OsState) : SharedT := ⟨trA P, 15, {}, #[], {}, 187, os⟩
noncomputable def o3_50 (P : Params) : Obj := ⟨(.type "dict"), none, (.dict (List.toArray [eS P "__name__" 165 (vS "wasmcore.codes" 196), eS P "__doc__" 166 .none, eS P "__package__" 167 .none, eS P "__loader__" 168 (.builtin "__main__.__loader__#opaque"), eS P "__spec__" 169 .none, eS P "__annotations__" 170 (.ref 6), eS P "__builtins__" 171 (.ref 4), eS P "__file__" 173 (vS "/claim/cut.py" 172), eS P "__cached__" 174 .none, eS P "I32" 189 (.int (-1) 188), eS P "I64" 192 (.int (-2) 191), eS P "FUNCREF" 195 (.int (-16) 194), eS P "UNREACHABLE" 199 (.int 0 198), eS P "NOP" 201 (.int 1 200), eS P "BLOCK" 203 (.int 2 202), eS P "LOOP" 205 (.int 3 204), eS P "IF" 207 (.int 4 206), eS P "ELSE" 209 (.int 5 208), eS P "END" 211 (.int 11 210), eS P "BR" 213 (.int 12 212), eS P "BR_IF" 215 (.int 13 214), eS P "BR_TABLE" 217 (.int 14 216), eS P "RETURN" 219 (.int 15 218), eS P "CALL" 221 (.int 16 220), eS P "CALL_INDIRECT" 223 (.int 17 222), eS P "RETURN_CALL" 225 (.int 18 224), eS P "RETURN_CALL_INDIRECT" 227 (.int 19 226), eS P "DROP" 229 (.int 26 228), eS P "SELECT" 231 (.int 27 230), eS P "SELECT_KINDS" 233 (.int 28 232), eS P "LOCAL_GET" 235 (.int 32 234), eS P "LOCAL_SET" 237 (.int 33 236), eS P "LOCAL_TEE" 239 (.int 34 238), eS P "GLOBAL_GET" 241 (.int 35 240), eS P "GLOBAL_SET" 243 (.int 36 242), eS P "TABLE_GET" 245 (.int 37 244), eS P "TABLE_SET" 247 (.int 38 246), eS P "MEMORY_SIZE" 249 (.int 63 248), eS P "MEMORY_GROW" 251 (.int 64 250), eS P "I32_CONST" 253 (.int 65 252), eS P "I64_CONST" 255 (.int 66 254), eS P "REF_NULL" 257 (.int 208 256), eS P "REF_IS_NULL" 259 (.int 209 258), eS P "REF_FUNC" 261 (.int 210 260), eS P "MEMORY_INIT" 263 (.int 64520 262), eS P "DATA_DROP" 265 (.int 64521 264), eS P "MEMORY_COPY" 267 (.int 64522 266), eS P "MEMORY_FILL" 269 (.int 64523 268), eS P "TABLE_INIT" 271 (.int 64524 270), eS P "ELEM_DROP" 273 (.int 64525 272), eS P "TABLE_COPY" 275 (.int 64526 274), eS P "TABLE_GROW" 277 (.int 64527 276), eS P "TABLE_SIZE" 279 (.int 64528 278), eS P "TABLE_FILL" 281 (.int 64529 280), eS P "VECTOR_PREFIX" 283 (.int 253 282), eS P "LOADS" 332 (.ref 15), eS P "STORES" 354 (.ref 28), eS P "LEFT_RANGES" 371 (.ref 44)]) 58), List.toArray []⟩
noncomputable def o15_50 (P : Params) : Obj := ⟨(.type "dict"), none, (.dict (List.toArray [⟨40, (.int 40 284), (.ref 16)⟩, ⟨41, (.int 41 287), (.ref 17)⟩, ⟨44, (.int 44 290), (.ref 18)⟩, ⟨45, (.int 45 293), (.ref 19)⟩, ⟨46, (.int 46 296), (.ref 20)⟩, ⟨47, (.int 47 299), (.ref 21)⟩, ⟨48, (.int 48 302), (.ref 22)⟩, ⟨49, (.int 49 305), (.ref 23)⟩, ⟨50, (.int 50 308), (.ref 24)⟩, ⟨51, (.int 51 311), (.ref 25)⟩, ⟨52, (.int 52 314), (.ref 26)⟩, ⟨53, (.int 53 317), (.ref 27)⟩]) 12), List.toArray []⟩
noncomputable def o16_50 (P : Params) : Obj := ⟨(.type "tuple"), none, (.seq (List.toArray [(.int (-1) 188), (.int 4 285), (.int 0 286)]) 0), List.toArray []⟩
noncomputable def o17_50 (P : Params) : Obj := ⟨(.type "tuple"), none, (.seq (List.toArray [(.int (-2) 191), (.int 8 288), (.int 0 289)]) 0), List.toArray []⟩
noncomputable def o18_50 (P : Params) : Obj := ⟨(.type "tuple"), none, (.seq (List.toArray [(.int (-1) 188), (.int 1 291), (.int 1 292)]) 0), List.toArray []⟩
noncomputable def o19_50 (P : Params) : Obj := ⟨(.type "tuple"), none, (.seq (List.toArray [(.int (-1) 188), (.int 1 294), (.int 0 295)]) 0), List.toArray []⟩
noncomputable def o20_50 (P : Params) : Obj := ⟨(.type "tuple"), none, (.seq (List.toArray [(.int (-1) 188), (.int 2 297), (.int 1 298)]) 0), List.toArray []⟩
noncomputable def o21_50 (P : Params) : Obj := ⟨(.type "tuple"), none, (.seq (List.toArray [(.int (-1) 188), (.int 2 300), (.int 0 301)]) 0), List.toArray []⟩
noncomputable def o22_50 (P : Params) : Obj := ⟨(.type "tuple"), none, (.seq (List.toArray [(.int (-2) 191), (.int 1 303), (.int 1 304)]) 0), List.toArray []⟩
noncomputable def o23_50 (P : Params) : Obj := ⟨(.type "tuple"), none, (.seq (List.toArray [(.int (-2) 191), (.int 1 306), (.int 0 307)]) 0), List.toArray []⟩
noncomputable def o24_50 (P : Params) : Obj := ⟨(.type "tuple"), none, (.seq (List.toArray [(.int (-2) 191), (.int 2 309), (.int 1 310)]) 0), List.toArray []⟩
noncomputable def o25_50 (P : Params) : Obj := ⟨(.type "tuple"), none, (.seq (List.toArray [(.int (-2) 191), (.int 2 312), (.int 0 313)]) 0), List.toArray []⟩
noncomputable def o26_50 (P : Params) : Obj := ⟨(.type "tuple"), none, (.seq (List.toArray [(.int (-2) 191), (.int 4 315), (.int 1 316)]) 0), List.toArray []⟩
noncomputable def o27_50 (P : Params) : Obj := ⟨(.type "tuple"), none, (.seq (List.toArray [(.int (-2) 191), (.int 4 318), (.int 0 319)]) 0), List.toArray []⟩
noncomputable def o28_50 (P : Params) : Obj := ⟨(.type "dict"), none, (.dict (List.toArray [⟨54, (.int 54 333), (.ref 29)⟩, ⟨55, (.int 55 335), (.ref 30)⟩, ⟨58, (.int 58 337), (.ref 31)⟩, ⟨59, (.int 59 339), (.ref 32)⟩, ⟨60, (.int 60 341), (.ref 33)⟩, ⟨61, (.int 61 343), (.ref 34)⟩, ⟨62, (.int 62 345), (.ref 35)⟩]) 7), List.toArray []⟩
noncomputable def o29_50 (P : Params) : Obj := ⟨(.type "tuple"), none, (.seq (List.toArray [(.int (-1) 188), (.int 4 334)]) 0), List.toArray []⟩
noncomputable def o30_50 (P : Params) : Obj := ⟨(.type "tuple"), none, (.seq (List.toArray [(.int (-2) 191), (.int 8 336)]) 0), List.toArray []⟩
noncomputable def o31_50 (P : Params) : Obj := ⟨(.type "tuple"), none, (.seq (List.toArray [(.int (-1) 188), (.int 1 338)]) 0), List.toArray []⟩
noncomputable def o32_50 (P : Params) : Obj := ⟨(.type "tuple"), none, (.seq (List.toArray [(.int (-1) 188), (.int 2 340)]) 0), List.toArray []⟩
noncomputable def o33_50 (P : Params) : Obj := ⟨(.type "tuple"), none, (.seq (List.toArray [(.int (-2) 191), (.int 1 342)]) 0), List.toArray []⟩
noncomputable def o34_50 (P : Params) : Obj := ⟨(.type "tuple"), none, (.seq (List.toArray [(.int (-2) 191), (.int 2 344)]) 0), List.toArray []⟩
noncomputable def o35_50 (P : Params) : Obj := ⟨(.type "tuple"), none, (.seq (List.toArray [(.int (-2) 191), (.int 4 346)]) 0), List.toArray []⟩
noncomputable def o36_50 (P : Params) : Obj := ⟨(.type "tuple"), none, (.seq (List.toArray [(.int 42 355), (.int 43 356)]) 0), List.toArray []⟩
noncomputable def o37_50 (P : Params) : Obj := ⟨(.type "tuple"), none, (.seq (List.toArray [(.int 56 357), (.int 57 358)]) 0), List.toArray []⟩
noncomputable def o38_50 (P : Params) : Obj := ⟨(.type "tuple"), none, (.seq (List.toArray [(.int 67 359), (.int 68 360)]) 0), List.toArray []⟩
noncomputable def o39_50 (P : Params) : Obj := ⟨(.type "tuple"), none, (.seq (List.toArray [(.int 91 361), (.int 102 362)]) 0), List.toArray []⟩
noncomputable def o40_50 (P : Params) : Obj := ⟨(.type "tuple"), none, (.seq (List.toArray [(.int 139 363), (.int 166 364)]) 0), List.toArray []⟩
noncomputable def o41_50 (P : Params) : Obj := ⟨(.type "tuple"), none, (.seq (List.toArray [(.int 168 365), (.int 171 366)]) 0), List.toArray []⟩
noncomputable def o42_50 (P : Params) : Obj := ⟨(.type "tuple"), none, (.seq (List.toArray [(.int 174 367), (.int 191 368)]) 0), List.toArray []⟩
noncomputable def o43_50 (P : Params) : Obj := ⟨(.type "tuple"), none, (.seq (List.toArray [(.int 64512 369), (.int 64519 370)]) 0), List.toArray []⟩
noncomputable def o44_50 (P : Params) : Obj := ⟨(.type "list"), none, (.seq (List.toArray [(.ref 36), (.ref 37), (.ref 38), (.ref 39), (.ref 40), (.ref 41), (.ref 42), (.ref 43)]) 0), List.toArray []⟩
noncomputable def tr50 (P : Params) : BT := (.node (o0_A P) (.node (o1_A P) (.node (o3_50 P) (.node (o7_A P) (.node (o15_50 P) (.node (o31_50 P) .nil .nil) .nil) (.node (o23_50 P) (.node (o39_50 P) .nil .nil) .nil)) (.node (o11_A P) (.node (o19_50 P) (.node (o35_50 P) .nil .nil) .nil) (.node (o27_50 P) (.node (o43_50 P) .nil .nil) .nil))) (.node (o5_A P) (.node (o9_A P) (.node (o17_50 P) (.node (o33_50 P) .nil .nil) .nil) (.node (o25_50 P) (.node (o41_50 P) .nil .nil) .nil)) (.node (o13_A P) (.node (o21_50 P) (.node (o37_50 P) .nil .nil) .nil) (.node (o29_50 P) .nil .nil)))) (.node (o2_A P) (.node (o4_A P) (.node (o8_A P) (.node (o16_50 P) (.node (o32_50 P) .nil .nil) .nil) (.node (o24_50 P) (.node (o40_50 P) .nil .nil) .nil)) (.node (o12_A P) (.node (o20_50 P) (.node (o36_50 P) .nil .nil) .nil) (.node (o28_50 P) (.node (o44_50 P) .nil .nil) .nil))) (.node (o6_A P) (.node (o10_A P) (.node (o18_50 P) (.node (o34_50 P) .nil .nil) .nil) (.node (o26_50 P) (.node (o42_50 P) .nil .nil) .nil)) (.node (o14_A P) (.node (o22_50 P) (.node (o38_50 P) .nil .nil) .nil) (.node (o30_50 P) .nil .nil)))))
noncomputable abbrev st50 (P : Params) (os : OsState) : SharedT := ⟨tr50 P, 45, {}, #[], {}, 372, os⟩
noncomputable def o3_51 (P : Params) : Obj := ⟨(.type "dict"), none, (.dict (List.toArray [eS P "__name__" 165 (vS "wasmcore.codes" 196), eS P "__doc__" 166 .none, eS P "__package__" 167 .none, eS P "__loader__" 168 (.builtin "__main__.__loader__#opaque"), eS P "__spec__" 169 .none, eS P "__annotations__" 170 (.ref 6), eS P "__builtins__" 171 (.ref 4), eS P "__file__" 173 (vS "/claim/cut.py" 172), eS P "__cached__" 174 .none, eS P "I32" 189 (.int (-1) 188), eS P "I64" 192 (.int (-2) 191), eS P "FUNCREF" 195 (.int (-16) 194), eS P "UNREACHABLE" 199 (.int 0 198), eS P "NOP" 201 (.int 1 200), eS P "BLOCK" 203 (.int 2 202), eS P "LOOP" 205 (.int 3 204), eS P "IF" 207 (.int 4 206), eS P "ELSE" 209 (.int 5 208), eS P "END" 211 (.int 11 210), eS P "BR" 213 (.int 12 212), eS P "BR_IF" 215 (.int 13 214), eS P "BR_TABLE" 217 (.int 14 216), eS P "RETURN" 219 (.int 15 218), eS P "CALL" 221 (.int 16 220), eS P "CALL_INDIRECT" 223 (.int 17 222), eS P "RETURN_CALL" 225 (.int 18 224), eS P "RETURN_CALL_INDIRECT" 227 (.int 19 226), eS P "DROP" 229 (.int 26 228), eS P "SELECT" 231 (.int 27 230), eS P "SELECT_KINDS" 233 (.int 28 232), eS P "LOCAL_GET" 235 (.int 32 234), eS P "LOCAL_SET" 237 (.int 33 236), eS P "LOCAL_TEE" 239 (.int 34 238), eS P "GLOBAL_GET" 241 (.int 35 240), eS P "GLOBAL_SET" 243 (.int 36 242), eS P "TABLE_GET" 245 (.int 37 244), eS P "TABLE_SET" 247 (.int 38 246), eS P "MEMORY_SIZE" 249 (.int 63 248), eS P "MEMORY_GROW" 251 (.int 64 250), eS P "I32_CONST" 253 (.int 65 252), eS P "I64_CONST" 255 (.int 66 254), eS P "REF_NULL" 257 (.int 208 256), eS P "REF_IS_NULL" 259 (.int 209 258), eS P "REF_FUNC" 261 (.int 210 260), eS P "MEMORY_INIT" 263 (.int 64520 262), eS P "DATA_DROP" 265 (.int 64521 264), eS P "MEMORY_COPY" 267 (.int 64522 266), eS P "MEMORY_FILL" 269 (.int 64523 268), eS P "TABLE_INIT" 271 (.int 64524 270), eS P "ELEM_DROP" 273 (.int 64525 272), eS P "TABLE_COPY" 275 (.int 64526 274), eS P "TABLE_GROW" 277 (.int 64527 276), eS P "TABLE_SIZE" 279 (.int 64528 278), eS P "TABLE_FILL" 281 (.int 64529 280), eS P "VECTOR_PREFIX" 283 (.int 253 282), eS P "LOADS" 332 (.ref 15), eS P "STORES" 354 (.ref 28), eS P "LEFT_RANGES" 371 (.ref 44), eS P "FORMS" 456 (.ref 45)]) 59), List.toArray []⟩
noncomputable def o45_51 (P : Params) : Obj := ⟨(.type "dict"), none, (.dict (List.toArray [⟨0, (.int 0 198), (vS "none" 372)⟩, ⟨1, (.int 1 200), (vS "none" 374)⟩, ⟨2, (.int 2 202), (vS "block" 376)⟩, ⟨3, (.int 3 204), (vS "block" 378)⟩, ⟨4, (.int 4 206), (vS "block" 380)⟩, ⟨5, (.int 5 208), (vS "none" 382)⟩, ⟨11, (.int 11 210), (vS "none" 384)⟩, ⟨12, (.int 12 212), (vS "label" 386)⟩, ⟨13, (.int 13 214), (vS "label" 388)⟩, ⟨14, (.int 14 216), (vS "labels" 390)⟩, ⟨15, (.int 15 218), (vS "none" 392)⟩, ⟨16, (.int 16 220), (vS "func" 394)⟩, ⟨17, (.int 17 222), (vS "indirect" 396)⟩, ⟨18, (.int 18 224), (vS "func" 398)⟩, ⟨19, (.int 19 226), (vS "indirect" 400)⟩, ⟨26, (.int 26 228), (vS "none" 402)⟩, ⟨27, (.int 27 230), (vS "none" 404)⟩, ⟨28, (.int 28 232), (vS "kinds" 406)⟩, ⟨32, (.int 32 234), (vS "local" 408)⟩, ⟨33, (.int 33 236), (vS "local" 410)⟩, ⟨34, (.int 34 238), (vS "local" 412)⟩, ⟨35, (.int 35 240), (vS "global" 414)⟩, ⟨36, (.int 36 242), (vS "global" 416)⟩, ⟨37, (.int 37 244), (vS "table" 418)⟩, ⟨38, (.int 38 246), (vS "table" 420)⟩, ⟨63, (.int 63 248), (vS "memory" 422)⟩, ⟨64, (.int 64 250), (vS "memory" 424)⟩, ⟨65, (.int 65 252), (vS "i32" 426)⟩, ⟨66, (.int 66 254), (vS "i64" 428)⟩, ⟨208, (.int 208 256), (vS "refkind" 430)⟩, ⟨209, (.int 209 258), (vS "none" 432)⟩, ⟨210, (.int 210 260), (vS "func" 434)⟩, ⟨64520, (.int 64520 262), (vS "memory_init" 436)⟩, ⟨64521, (.int 64521 264), (vS "data" 438)⟩, ⟨64522, (.int 64522 266), (vS "two_memories" 440)⟩, ⟨64523, (.int 64523 268), (vS "memory" 441)⟩, ⟨64524, (.int 64524 270), (vS "table_init" 442)⟩, ⟨64525, (.int 64525 272), (vS "elem" 443)⟩, ⟨64526, (.int 64526 274), (vS "table_copy" 444)⟩, ⟨64527, (.int 64527 276), (vS "table" 445)⟩, ⟨64528, (.int 64528 278), (vS "table" 446)⟩, ⟨64529, (.int 64529 280), (vS "table" 447)⟩]) 42), List.toArray []⟩
noncomputable def o46_51 (P : Params) : Obj := ⟨(.type "dict"), none, (.dict (List.toArray [⟨28, (.int 28 232), (vS "kinds" 406)⟩, ⟨32, (.int 32 234), (vS "local" 408)⟩, ⟨33, (.int 33 236), (vS "local" 410)⟩, ⟨34, (.int 34 238), (vS "local" 412)⟩, ⟨35, (.int 35 240), (vS "global" 414)⟩, ⟨36, (.int 36 242), (vS "global" 416)⟩, ⟨37, (.int 37 244), (vS "table" 418)⟩, ⟨38, (.int 38 246), (vS "table" 420)⟩, ⟨63, (.int 63 248), (vS "memory" 422)⟩, ⟨64, (.int 64 250), (vS "memory" 424)⟩, ⟨65, (.int 65 252), (vS "i32" 426)⟩, ⟨66, (.int 66 254), (vS "i64" 428)⟩, ⟨208, (.int 208 256), (vS "refkind" 430)⟩, ⟨209, (.int 209 258), (vS "none" 432)⟩, ⟨210, (.int 210 260), (vS "func" 434)⟩, ⟨64520, (.int 64520 262), (vS "memory_init" 436)⟩, ⟨64521, (.int 64521 264), (vS "data" 438)⟩]) 17), List.toArray []⟩
noncomputable def o47_51 (P : Params) : Obj := ⟨(.type "dict"), none, (.dict (List.toArray [⟨64522, (.int 64522 266), (vS "two_memories" 440)⟩, ⟨64523, (.int 64523 268), (vS "memory" 441)⟩, ⟨64524, (.int 64524 270), (vS "table_init" 442)⟩, ⟨64525, (.int 64525 272), (vS "elem" 443)⟩, ⟨64526, (.int 64526 274), (vS "table_copy" 444)⟩, ⟨64527, (.int 64527 276), (vS "table" 445)⟩, ⟨64528, (.int 64528 278), (vS "table" 446)⟩, ⟨64529, (.int 64529 280), (vS "table" 447)⟩]) 8), List.toArray []⟩
noncomputable def tr51 (P : Params) : BT := (.node (o0_A P) (.node (o1_A P) (.node (o3_51 P) (.node (o7_A P) (.node (o15_50 P) (.node (o31_50 P) .nil .nil) (.node (o47_51 P) .nil .nil)) (.node (o23_50 P) (.node (o39_50 P) .nil .nil) .nil)) (.node (o11_A P) (.node (o19_50 P) (.node (o35_50 P) .nil .nil) .nil) (.node (o27_50 P) (.node (o43_50 P) .nil .nil) .nil))) (.node (o5_A P) (.node (o9_A P) (.node (o17_50 P) (.node (o33_50 P) .nil .nil) .nil) (.node (o25_50 P) (.node (o41_50 P) .nil .nil) .nil)) (.node (o13_A P) (.node (o21_50 P) (.node (o37_50 P) .nil .nil) .nil) (.node (o29_50 P) (.node (o45_51 P) .nil .nil) .nil)))) (.node (o2_A P) (.node (o4_A P) (.node (o8_A P) (.node (o16_50 P) (.node (o32_50 P) .nil .nil) .nil) (.node (o24_50 P) (.node (o40_50 P) .nil .nil) .nil)) (.node (o12_A P) (.node (o20_50 P) (.node (o36_50 P) .nil .nil) .nil) (.node (o28_50 P) (.node (o44_50 P) .nil .nil) .nil))) (.node (o6_A P) (.node (o10_A P) (.node (o18_50 P) (.node (o34_50 P) .nil .nil) .nil) (.node (o26_50 P) (.node (o42_50 P) .nil .nil) .nil)) (.node (o14_A P) (.node (o22_50 P) (.node (o38_50 P) .nil .nil) .nil) (.node (o30_50 P) (.node (o46_51 P) .nil .nil) .nil)))))
noncomputable abbrev st51 (P : Params) (os : OsState) : SharedT := ⟨tr51 P, 48, {}, #[], {}, 457, os⟩
noncomputable def o3_64 (P : Params) : Obj := ⟨(.type "dict"), none, (.dict (List.toArray [eS P "__name__" 165 (vS "wasmcore.opnames" 557), eS P "__doc__" 166 .none, eS P "__package__" 167 .none, eS P "__loader__" 168 (.builtin "__main__.__loader__#opaque"), eS P "__spec__" 169 .none, eS P "__annotations__" 170 (.ref 6), eS P "__builtins__" 171 (.ref 4), eS P "__file__" 173 (vS "/claim/cut.py" 172), eS P "__cached__" 174 .none, eS P "I32" 189 (.int (-1) 188), eS P "I64" 192 (.int (-2) 191), eS P "FUNCREF" 195 (.int (-16) 194), eS P "UNREACHABLE" 199 (.int 0 198), eS P "NOP" 201 (.int 1 200), eS P "BLOCK" 203 (.int 2 202), eS P "LOOP" 205 (.int 3 204), eS P "IF" 207 (.int 4 206), eS P "ELSE" 209 (.int 5 208), eS P "END" 211 (.int 11 210), eS P "BR" 213 (.int 12 212), eS P "BR_IF" 215 (.int 13 214), eS P "BR_TABLE" 217 (.int 14 216), eS P "RETURN" 219 (.int 15 218), eS P "CALL" 221 (.int 16 220), eS P "CALL_INDIRECT" 223 (.int 17 222), eS P "RETURN_CALL" 225 (.int 18 224), eS P "RETURN_CALL_INDIRECT" 227 (.int 19 226), eS P "DROP" 229 (.int 26 228), eS P "SELECT" 231 (.int 27 230), eS P "SELECT_KINDS" 233 (.int 28 232), eS P "LOCAL_GET" 235 (.int 32 234), eS P "LOCAL_SET" 237 (.int 33 236), eS P "LOCAL_TEE" 239 (.int 34 238), eS P "GLOBAL_GET" 241 (.int 35 240), eS P "GLOBAL_SET" 243 (.int 36 242), eS P "TABLE_GET" 245 (.int 37 244), eS P "TABLE_SET" 247 (.int 38 246), eS P "MEMORY_SIZE" 249 (.int 63 248), eS P "MEMORY_GROW" 251 (.int 64 250), eS P "I32_CONST" 253 (.int 65 252), eS P "I64_CONST" 255 (.int 66 254), eS P "REF_NULL" 257 (.int 208 256), eS P "REF_IS_NULL" 259 (.int 209 258), eS P "REF_FUNC" 261 (.int 210 260), eS P "MEMORY_INIT" 263 (.int 64520 262), eS P "DATA_DROP" 265 (.int 64521 264), eS P "MEMORY_COPY" 267 (.int 64522 266), eS P "MEMORY_FILL" 269 (.int 64523 268), eS P "TABLE_INIT" 271 (.int 64524 270), eS P "ELEM_DROP" 273 (.int 64525 272), eS P "TABLE_COPY" 275 (.int 64526 274), eS P "TABLE_GROW" 277 (.int 64527 276), eS P "TABLE_SIZE" 279 (.int 64528 278), eS P "TABLE_FILL" 281 (.int 64529 280), eS P "VECTOR_PREFIX" 283 (.int 253 282), eS P "LOADS" 332 (.ref 15), eS P "STORES" 354 (.ref 28), eS P "LEFT_RANGES" 371 (.ref 44), eS P "FORMS" 456 (.ref 45), eS P "FIXED" 471 (.ref 48), eS P "NUMBERS" 496 (.ref 127), eS P "number_kind" 507 (.ref 134), eS P "form_of" 514 (.ref 141), eS P "stack_of" 521 (.ref 148), eS P "natural" 529 (.ref 155), eS P "is_block" 536 (.ref 162), eS P "is_left_out" 542 (.ref 167), eS P "matches" 556 (.ref 174), eS P "TESTS" 570 (.ref 175), eS P "SUMS" 589 (.ref 176), eS P "ROWS" 598 (.ref 181)]) 71), List.toArray []⟩
noncomputable def o12_64 (P : Params) : Obj := ⟨.none, none, (.fields (List.toArray [(.int 54 0), (.int 0 0), (.ref 133), (.int 59 0), (.int 0 0), (.ref 140), (.int 65 0), (.int 0 0), (.ref 147), (.int 73 0), (.int 0 0), (.ref 154), (.int 76 0), (.int 0 0), (.ref 161), (.int 78 0), (.int 0 0), (.ref 166), (.int 82 0), (.int 0 0), (.ref 173)])), List.toArray []⟩
noncomputable def o48_64 (P : Params) : Obj := ⟨(.type "dict"), none, (.dict (List.toArray [⟨1, (.int 1 200), (.ref 51)⟩, ⟨63, (.int 63 248), (.ref 54)⟩, ⟨64, (.int 64 250), (.ref 57)⟩, ⟨65, (.int 65 252), (.ref 60)⟩, ⟨66, (.int 66 254), (.ref 63)⟩, ⟨210, (.int 210 260), (.ref 66)⟩, ⟨64520, (.int 64520 262), (.ref 69)⟩, ⟨64521, (.int 64521 264), (.ref 72)⟩, ⟨64522, (.int 64522 266), (.ref 75)⟩, ⟨64523, (.int 64523 268), (.ref 78)⟩, ⟨64524, (.int 64524 270), (.ref 81)⟩, ⟨64525, (.int 64525 272), (.ref 84)⟩, ⟨64526, (.int 64526 274), (.ref 87)⟩, ⟨64528, (.int 64528 278), (.ref 90)⟩]) 14), List.toArray []⟩
noncomputable def o49_64 (P : Params) : Obj := ⟨(.type "tuple"), none, (.seq (List.toArray []) 0), List.toArray []⟩
noncomputable def o50_64 (P : Params) : Obj := ⟨(.type "tuple"), none, (.seq (List.toArray []) 0), List.toArray []⟩
noncomputable def o51_64 (P : Params) : Obj := ⟨(.type "tuple"), none, (.seq (List.toArray [(.ref 49), (.ref 50)]) 0), List.toArray []⟩
noncomputable def o52_64 (P : Params) : Obj := ⟨(.type "tuple"), none, (.seq (List.toArray []) 0), List.toArray []⟩
noncomputable def o53_64 (P : Params) : Obj := ⟨(.type "tuple"), none, (.seq (List.toArray [(.int (-1) 188)]) 0), List.toArray []⟩
noncomputable def o54_64 (P : Params) : Obj := ⟨(.type "tuple"), none, (.seq (List.toArray [(.ref 52), (.ref 53)]) 0), List.toArray []⟩
noncomputable def o55_64 (P : Params) : Obj := ⟨(.type "tuple"), none, (.seq (List.toArray [(.int (-1) 188)]) 0), List.toArray []⟩
noncomputable def o56_64 (P : Params) : Obj := ⟨(.type "tuple"), none, (.seq (List.toArray [(.int (-1) 188)]) 0), List.toArray []⟩
noncomputable def o57_64 (P : Params) : Obj := ⟨(.type "tuple"), none, (.seq (List.toArray [(.ref 55), (.ref 56)]) 0), List.toArray []⟩
noncomputable def o58_64 (P : Params) : Obj := ⟨(.type "tuple"), none, (.seq (List.toArray []) 0), List.toArray []⟩
noncomputable def o59_64 (P : Params) : Obj := ⟨(.type "tuple"), none, (.seq (List.toArray [(.int (-1) 188)]) 0), List.toArray []⟩
noncomputable def o60_64 (P : Params) : Obj := ⟨(.type "tuple"), none, (.seq (List.toArray [(.ref 58), (.ref 59)]) 0), List.toArray []⟩
noncomputable def o61_64 (P : Params) : Obj := ⟨(.type "tuple"), none, (.seq (List.toArray []) 0), List.toArray []⟩
noncomputable def o62_64 (P : Params) : Obj := ⟨(.type "tuple"), none, (.seq (List.toArray [(.int (-2) 191)]) 0), List.toArray []⟩
noncomputable def o63_64 (P : Params) : Obj := ⟨(.type "tuple"), none, (.seq (List.toArray [(.ref 61), (.ref 62)]) 0), List.toArray []⟩
noncomputable def o64_64 (P : Params) : Obj := ⟨(.type "tuple"), none, (.seq (List.toArray []) 0), List.toArray []⟩
noncomputable def o65_64 (P : Params) : Obj := ⟨(.type "tuple"), none, (.seq (List.toArray [(.int (-16) 194)]) 0), List.toArray []⟩
noncomputable def o66_64 (P : Params) : Obj := ⟨(.type "tuple"), none, (.seq (List.toArray [(.ref 64), (.ref 65)]) 0), List.toArray []⟩
noncomputable def o67_64 (P : Params) : Obj := ⟨(.type "tuple"), none, (.seq (List.toArray [(.int (-1) 188), (.int (-1) 188), (.int (-1) 188)]) 0), List.toArray []⟩
noncomputable def o68_64 (P : Params) : Obj := ⟨(.type "tuple"), none, (.seq (List.toArray []) 0), List.toArray []⟩
noncomputable def o69_64 (P : Params) : Obj := ⟨(.type "tuple"), none, (.seq (List.toArray [(.ref 67), (.ref 68)]) 0), List.toArray []⟩
noncomputable def o70_64 (P : Params) : Obj := ⟨(.type "tuple"), none, (.seq (List.toArray []) 0), List.toArray []⟩
noncomputable def o71_64 (P : Params) : Obj := ⟨(.type "tuple"), none, (.seq (List.toArray []) 0), List.toArray []⟩
noncomputable def o72_64 (P : Params) : Obj := ⟨(.type "tuple"), none, (.seq (List.toArray [(.ref 70), (.ref 71)]) 0), List.toArray []⟩
noncomputable def o73_64 (P : Params) : Obj := ⟨(.type "tuple"), none, (.seq (List.toArray [(.int (-1) 188), (.int (-1) 188), (.int (-1) 188)]) 0), List.toArray []⟩
noncomputable def o74_64 (P : Params) : Obj := ⟨(.type "tuple"), none, (.seq (List.toArray []) 0), List.toArray []⟩
noncomputable def o75_64 (P : Params) : Obj := ⟨(.type "tuple"), none, (.seq (List.toArray [(.ref 73), (.ref 74)]) 0), List.toArray []⟩
noncomputable def o76_64 (P : Params) : Obj := ⟨(.type "tuple"), none, (.seq (List.toArray [(.int (-1) 188), (.int (-1) 188), (.int (-1) 188)]) 0), List.toArray []⟩
noncomputable def o77_64 (P : Params) : Obj := ⟨(.type "tuple"), none, (.seq (List.toArray []) 0), List.toArray []⟩
noncomputable def o78_64 (P : Params) : Obj := ⟨(.type "tuple"), none, (.seq (List.toArray [(.ref 76), (.ref 77)]) 0), List.toArray []⟩
noncomputable def o79_64 (P : Params) : Obj := ⟨(.type "tuple"), none, (.seq (List.toArray [(.int (-1) 188), (.int (-1) 188), (.int (-1) 188)]) 0), List.toArray []⟩
noncomputable def o80_64 (P : Params) : Obj := ⟨(.type "tuple"), none, (.seq (List.toArray []) 0), List.toArray []⟩
noncomputable def o81_64 (P : Params) : Obj := ⟨(.type "tuple"), none, (.seq (List.toArray [(.ref 79), (.ref 80)]) 0), List.toArray []⟩
noncomputable def o82_64 (P : Params) : Obj := ⟨(.type "tuple"), none, (.seq (List.toArray []) 0), List.toArray []⟩
noncomputable def o83_64 (P : Params) : Obj := ⟨(.type "tuple"), none, (.seq (List.toArray []) 0), List.toArray []⟩
noncomputable def o84_64 (P : Params) : Obj := ⟨(.type "tuple"), none, (.seq (List.toArray [(.ref 82), (.ref 83)]) 0), List.toArray []⟩
noncomputable def o85_64 (P : Params) : Obj := ⟨(.type "tuple"), none, (.seq (List.toArray [(.int (-1) 188), (.int (-1) 188), (.int (-1) 188)]) 0), List.toArray []⟩
noncomputable def o86_64 (P : Params) : Obj := ⟨(.type "tuple"), none, (.seq (List.toArray []) 0), List.toArray []⟩
noncomputable def o87_64 (P : Params) : Obj := ⟨(.type "tuple"), none, (.seq (List.toArray [(.ref 85), (.ref 86)]) 0), List.toArray []⟩
noncomputable def o88_64 (P : Params) : Obj := ⟨(.type "tuple"), none, (.seq (List.toArray []) 0), List.toArray []⟩
noncomputable def o89_64 (P : Params) : Obj := ⟨(.type "tuple"), none, (.seq (List.toArray [(.int (-1) 188)]) 0), List.toArray []⟩
noncomputable def o90_64 (P : Params) : Obj := ⟨(.type "tuple"), none, (.seq (List.toArray [(.ref 88), (.ref 89)]) 0), List.toArray []⟩
noncomputable def o91_64 (P : Params) : Obj := ⟨(.type "tuple"), none, (.seq (List.toArray [(.int (-1) 188)]) 0), List.toArray []⟩
noncomputable def o92_64 (P : Params) : Obj := ⟨(.type "tuple"), none, (.seq (List.toArray [(.int (-1) 188)]) 0), List.toArray []⟩
noncomputable def o93_64 (P : Params) : Obj := ⟨(.type "tuple"), none, (.seq (List.toArray [(.int 69 472), (.int 69 473), (.ref 91), (.ref 92)]) 0), List.toArray []⟩
noncomputable def o94_64 (P : Params) : Obj := ⟨(.type "tuple"), none, (.seq (List.toArray [(.int (-1) 188), (.int (-1) 188)]) 0), List.toArray []⟩
noncomputable def o95_64 (P : Params) : Obj := ⟨(.type "tuple"), none, (.seq (List.toArray [(.int (-1) 188)]) 0), List.toArray []⟩
noncomputable def o96_64 (P : Params) : Obj := ⟨(.type "tuple"), none, (.seq (List.toArray [(.int 70 474), (.int 79 475), (.ref 94), (.ref 95)]) 0), List.toArray []⟩
noncomputable def o97_64 (P : Params) : Obj := ⟨(.type "tuple"), none, (.seq (List.toArray [(.int (-2) 191)]) 0), List.toArray []⟩
noncomputable def o98_64 (P : Params) : Obj := ⟨(.type "tuple"), none, (.seq (List.toArray [(.int (-1) 188)]) 0), List.toArray []⟩
noncomputable def o99_64 (P : Params) : Obj := ⟨(.type "tuple"), none, (.seq (List.toArray [(.int 80 476), (.int 80 477), (.ref 97), (.ref 98)]) 0), List.toArray []⟩
noncomputable def o100_64 (P : Params) : Obj := ⟨(.type "tuple"), none, (.seq (List.toArray [(.int (-2) 191), (.int (-2) 191)]) 0), List.toArray []⟩
noncomputable def o101_64 (P : Params) : Obj := ⟨(.type "tuple"), none, (.seq (List.toArray [(.int (-1) 188)]) 0), List.toArray []⟩
noncomputable def o102_64 (P : Params) : Obj := ⟨(.type "tuple"), none, (.seq (List.toArray [(.int 81 478), (.int 90 479), (.ref 100), (.ref 101)]) 0), List.toArray []⟩
noncomputable def o103_64 (P : Params) : Obj := ⟨(.type "tuple"), none, (.seq (List.toArray [(.int (-1) 188)]) 0), List.toArray []⟩
noncomputable def o104_64 (P : Params) : Obj := ⟨(.type "tuple"), none, (.seq (List.toArray [(.int (-1) 188)]) 0), List.toArray []⟩
noncomputable def o105_64 (P : Params) : Obj := ⟨(.type "tuple"), none, (.seq (List.toArray [(.int 103 480), (.int 105 481), (.ref 103), (.ref 104)]) 0), List.toArray []⟩
noncomputable def o106_64 (P : Params) : Obj := ⟨(.type "tuple"), none, (.seq (List.toArray [(.int (-1) 188), (.int (-1) 188)]) 0), List.toArray []⟩
noncomputable def o107_64 (P : Params) : Obj := ⟨(.type "tuple"), none, (.seq (List.toArray [(.int (-1) 188)]) 0), List.toArray []⟩
noncomputable def o108_64 (P : Params) : Obj := ⟨(.type "tuple"), none, (.seq (List.toArray [(.int 106 482), (.int 120 483), (.ref 106), (.ref 107)]) 0), List.toArray []⟩
noncomputable def o109_64 (P : Params) : Obj := ⟨(.type "tuple"), none, (.seq (List.toArray [(.int (-2) 191)]) 0), List.toArray []⟩
noncomputable def o110_64 (P : Params) : Obj := ⟨(.type "tuple"), none, (.seq (List.toArray [(.int (-2) 191)]) 0), List.toArray []⟩
noncomputable def o111_64 (P : Params) : Obj := ⟨(.type "tuple"), none, (.seq (List.toArray [(.int 121 484), (.int 123 485), (.ref 109), (.ref 110)]) 0), List.toArray []⟩
noncomputable def o112_64 (P : Params) : Obj := ⟨(.type "tuple"), none, (.seq (List.toArray [(.int (-2) 191), (.int (-2) 191)]) 0), List.toArray []⟩
noncomputable def o113_64 (P : Params) : Obj := ⟨(.type "tuple"), none, (.seq (List.toArray [(.int (-2) 191)]) 0), List.toArray []⟩
noncomputable def o114_64 (P : Params) : Obj := ⟨(.type "tuple"), none, (.seq (List.toArray [(.int 124 486), (.int 138 487), (.ref 112), (.ref 113)]) 0), List.toArray []⟩
noncomputable def o115_64 (P : Params) : Obj := ⟨(.type "tuple"), none, (.seq (List.toArray [(.int (-2) 191)]) 0), List.toArray []⟩
noncomputable def o116_64 (P : Params) : Obj := ⟨(.type "tuple"), none, (.seq (List.toArray [(.int (-1) 188)]) 0), List.toArray []⟩
noncomputable def o117_64 (P : Params) : Obj := ⟨(.type "tuple"), none, (.seq (List.toArray [(.int 167 488), (.int 167 489), (.ref 115), (.ref 116)]) 0), List.toArray []⟩
noncomputable def o118_64 (P : Params) : Obj := ⟨(.type "tuple"), none, (.seq (List.toArray [(.int (-1) 188)]) 0), List.toArray []⟩
noncomputable def o119_64 (P : Params) : Obj := ⟨(.type "tuple"), none, (.seq (List.toArray [(.int (-2) 191)]) 0), List.toArray []⟩
noncomputable def o120_64 (P : Params) : Obj := ⟨(.type "tuple"), none, (.seq (List.toArray [(.int 172 490), (.int 173 491), (.ref 118), (.ref 119)]) 0), List.toArray []⟩
noncomputable def o121_64 (P : Params) : Obj := ⟨(.type "tuple"), none, (.seq (List.toArray [(.int (-1) 188)]) 0), List.toArray []⟩
noncomputable def o122_64 (P : Params) : Obj := ⟨(.type "tuple"), none, (.seq (List.toArray [(.int (-1) 188)]) 0), List.toArray []⟩
noncomputable def o123_64 (P : Params) : Obj := ⟨(.type "tuple"), none, (.seq (List.toArray [(.int 192 492), (.int 193 493), (.ref 121), (.ref 122)]) 0), List.toArray []⟩
noncomputable def o124_64 (P : Params) : Obj := ⟨(.type "tuple"), none, (.seq (List.toArray [(.int (-2) 191)]) 0), List.toArray []⟩
noncomputable def o125_64 (P : Params) : Obj := ⟨(.type "tuple"), none, (.seq (List.toArray [(.int (-2) 191)]) 0), List.toArray []⟩
noncomputable def o126_64 (P : Params) : Obj := ⟨(.type "tuple"), none, (.seq (List.toArray [(.int 194 494), (.int 196 495), (.ref 124), (.ref 125)]) 0), List.toArray []⟩
noncomputable def o127_64 (P : Params) : Obj := ⟨(.type "tuple"), none, (.seq (List.toArray [(.ref 93), (.ref 96), (.ref 99), (.ref 102), (.ref 105), (.ref 108), (.ref 111), (.ref 114), (.ref 117), (.ref 120), (.ref 123), (.ref 126)]) 0), List.toArray []⟩
noncomputable def o128_64 (P : Params) : Obj := ⟨(.type "tuple"), none, (.seq (List.toArray []) 0), List.toArray []⟩
noncomputable def o129_64 (P : Params) : Obj := ⟨.none, none, (.fields (List.toArray [])), List.toArray []⟩
noncomputable def o130_64 (P : Params) : Obj := ⟨(.type "tuple"), none, (.seq (List.toArray [(vS "code" 500), (vS "least" 501), (vS "most" 502), (vS "params" 503), (vS "results" 504)]) 0), List.toArray []⟩
noncomputable def o131_64 (P : Params) : Obj := ⟨(.type "tuple"), none, (.seq (List.toArray []) 0), List.toArray []⟩
noncomputable def o132_64 (P : Params) : Obj := ⟨.none, none, (.func { fnB 53 with globals := 0, defaults := .none, kwdefaults := .none, doc := .none, pyModule := .none, annotations := none, code := .none, closureTuple := .none, builtins := 0 }), List.toArray []⟩
noncomputable def o133_64 (P : Params) : Obj := ⟨(.type "code"), none, (.fields (List.toArray [(vS "number_kind" 497), (vS "number_kind" 498), (vS "/claim/cut.py" 499), (.int 54 0), (.int 1 0), (.int 0 0), (.int 0 0), (.int 3 0), (.ref 128), (.bool true), (.int 181 0), (.ref 129), .none, (.ref 130), (.ref 131), (.ref 132), (.int 505 0), (.int 54 0), (vS "/claim/cut.py" 506)])), List.toArray []⟩
noncomputable def o134_64 (P : Params) : Obj := ⟨(.type "function"), none, (.func { fnB 53 with globals := 3, defaults := .none, kwdefaults := .none, doc := .none, pyModule := (vS "wasmcore.codes" 196), annotations := none, code := (.ref 133), closureTuple := .none, builtins := 0 }), List.toArray []⟩
noncomputable def o135_64 (P : Params) : Obj := ⟨(.type "tuple"), none, (.seq (List.toArray []) 0), List.toArray []⟩
noncomputable def o136_64 (P : Params) : Obj := ⟨.none, none, (.fields (List.toArray [])), List.toArray []⟩
noncomputable def o137_64 (P : Params) : Obj := ⟨(.type "tuple"), none, (.seq (List.toArray [(vS "code" 511)]) 0), List.toArray []⟩
noncomputable def o138_64 (P : Params) : Obj := ⟨(.type "tuple"), none, (.seq (List.toArray []) 0), List.toArray []⟩
noncomputable def o139_64 (P : Params) : Obj := ⟨.none, none, (.func { fnB 54 with globals := 0, defaults := .none, kwdefaults := .none, doc := .none, pyModule := .none, annotations := none, code := .none, closureTuple := .none, builtins := 0 }), List.toArray []⟩
noncomputable def o140_64 (P : Params) : Obj := ⟨(.type "code"), none, (.fields (List.toArray [(vS "form_of" 508), (vS "form_of" 509), (vS "/claim/cut.py" 510), (.int 59 0), (.int 1 0), (.int 0 0), (.int 0 0), (.int 3 0), (.ref 135), (.bool true), (.int 181 0), (.ref 136), .none, (.ref 137), (.ref 138), (.ref 139), (.int 512 0), (.int 59 0), (vS "/claim/cut.py" 513)])), List.toArray []⟩
noncomputable def o141_64 (P : Params) : Obj := ⟨(.type "function"), none, (.func { fnB 54 with globals := 3, defaults := .none, kwdefaults := .none, doc := .none, pyModule := (vS "wasmcore.codes" 196), annotations := none, code := (.ref 140), closureTuple := .none, builtins := 0 }), List.toArray []⟩
noncomputable def o142_64 (P : Params) : Obj := ⟨(.type "tuple"), none, (.seq (List.toArray []) 0), List.toArray []⟩
noncomputable def o143_64 (P : Params) : Obj := ⟨.none, none, (.fields (List.toArray [])), List.toArray []⟩
noncomputable def o144_64 (P : Params) : Obj := ⟨(.type "tuple"), none, (.seq (List.toArray [(vS "code" 518)]) 0), List.toArray []⟩
noncomputable def o145_64 (P : Params) : Obj := ⟨(.type "tuple"), none, (.seq (List.toArray []) 0), List.toArray []⟩
noncomputable def o146_64 (P : Params) : Obj := ⟨.none, none, (.func { fnB 55 with globals := 0, defaults := .none, kwdefaults := .none, doc := .none, pyModule := .none, annotations := none, code := .none, closureTuple := .none, builtins := 0 }), List.toArray []⟩
noncomputable def o147_64 (P : Params) : Obj := ⟨(.type "code"), none, (.fields (List.toArray [(vS "stack_of" 515), (vS "stack_of" 516), (vS "/claim/cut.py" 517), (.int 65 0), (.int 1 0), (.int 0 0), (.int 0 0), (.int 3 0), (.ref 142), (.bool true), (.int 181 0), (.ref 143), .none, (.ref 144), (.ref 145), (.ref 146), (.int 519 0), (.int 65 0), (vS "/claim/cut.py" 520)])), List.toArray []⟩
noncomputable def o148_64 (P : Params) : Obj := ⟨(.type "function"), none, (.func { fnB 55 with globals := 3, defaults := .none, kwdefaults := .none, doc := .none, pyModule := (vS "wasmcore.codes" 196), annotations := none, code := (.ref 147), closureTuple := .none, builtins := 0 }), List.toArray []⟩
noncomputable def o149_64 (P : Params) : Obj := ⟨(.type "tuple"), none, (.seq (List.toArray []) 0), List.toArray []⟩
noncomputable def o150_64 (P : Params) : Obj := ⟨.none, none, (.fields (List.toArray [])), List.toArray []⟩
noncomputable def o151_64 (P : Params) : Obj := ⟨(.type "tuple"), none, (.seq (List.toArray [(vS "code" 525), (vS "octets" 526)]) 0), List.toArray []⟩
noncomputable def o152_64 (P : Params) : Obj := ⟨(.type "tuple"), none, (.seq (List.toArray []) 0), List.toArray []⟩
noncomputable def o153_64 (P : Params) : Obj := ⟨.none, none, (.func { fnB 56 with globals := 0, defaults := .none, kwdefaults := .none, doc := .none, pyModule := .none, annotations := none, code := .none, closureTuple := .none, builtins := 0 }), List.toArray []⟩
noncomputable def o154_64 (P : Params) : Obj := ⟨(.type "code"), none, (.fields (List.toArray [(vS "natural" 522), (vS "natural" 523), (vS "/claim/cut.py" 524), (.int 73 0), (.int 1 0), (.int 0 0), (.int 0 0), (.int 3 0), (.ref 149), (.bool true), (.int 181 0), (.ref 150), .none, (.ref 151), (.ref 152), (.ref 153), (.int 527 0), (.int 73 0), (vS "/claim/cut.py" 528)])), List.toArray []⟩
noncomputable def o155_64 (P : Params) : Obj := ⟨(.type "function"), none, (.func { fnB 56 with globals := 3, defaults := .none, kwdefaults := .none, doc := .none, pyModule := (vS "wasmcore.codes" 196), annotations := none, code := (.ref 154), closureTuple := .none, builtins := 0 }), List.toArray []⟩
noncomputable def o156_64 (P : Params) : Obj := ⟨(.type "tuple"), none, (.seq (List.toArray []) 0), List.toArray []⟩
noncomputable def o157_64 (P : Params) : Obj := ⟨.none, none, (.fields (List.toArray [])), List.toArray []⟩
noncomputable def o158_64 (P : Params) : Obj := ⟨(.type "tuple"), none, (.seq (List.toArray [(vS "code" 533)]) 0), List.toArray []⟩
noncomputable def o159_64 (P : Params) : Obj := ⟨(.type "tuple"), none, (.seq (List.toArray []) 0), List.toArray []⟩
noncomputable def o160_64 (P : Params) : Obj := ⟨.none, none, (.func { fnB 57 with globals := 0, defaults := .none, kwdefaults := .none, doc := .none, pyModule := .none, annotations := none, code := .none, closureTuple := .none, builtins := 0 }), List.toArray []⟩
noncomputable def o161_64 (P : Params) : Obj := ⟨(.type "code"), none, (.fields (List.toArray [(vS "is_block" 530), (vS "is_block" 531), (vS "/claim/cut.py" 532), (.int 76 0), (.int 1 0), (.int 0 0), (.int 0 0), (.int 3 0), (.ref 156), (.bool true), (.int 181 0), (.ref 157), .none, (.ref 158), (.ref 159), (.ref 160), (.int 534 0), (.int 76 0), (vS "/claim/cut.py" 535)])), List.toArray []⟩
noncomputable def o162_64 (P : Params) : Obj := ⟨(.type "function"), none, (.func { fnB 57 with globals := 3, defaults := .none, kwdefaults := .none, doc := .none, pyModule := (vS "wasmcore.codes" 196), annotations := none, code := (.ref 161), closureTuple := .none, builtins := 0 }), List.toArray []⟩
noncomputable def o163_64 (P : Params) : Obj := ⟨(.type "tuple"), none, (.seq (List.toArray []) 0), List.toArray []⟩
noncomputable def o164_64 (P : Params) : Obj := ⟨.none, none, (.fields (List.toArray [])), List.toArray []⟩
noncomputable def o165_64 (P : Params) : Obj := ⟨.none, none, (.func { fnB 58 with globals := 0, defaults := .none, kwdefaults := .none, doc := .none, pyModule := .none, annotations := none, code := .none, closureTuple := .none, builtins := 0 }), List.toArray []⟩
noncomputable def o166_64 (P : Params) : Obj := ⟨(.type "code"), none, (.fields (List.toArray [(vS "is_left_out" 537), (vS "is_left_out" 538), (vS "/claim/cut.py" 539), (.int 78 0), (.int 1 0), (.int 0 0), (.int 0 0), (.int 3 0), (.ref 163), (.bool true), (.int 181 0), (.ref 164), .none, .none, .none, (.ref 165), (.int 540 0), (.int 78 0), (vS "/claim/cut.py" 541)])), List.toArray []⟩
noncomputable def o167_64 (P : Params) : Obj := ⟨(.type "function"), none, (.func { fnB 58 with globals := 3, defaults := .none, kwdefaults := .none, doc := .none, pyModule := (vS "wasmcore.codes" 196), annotations := none, code := (.ref 166), closureTuple := .none, builtins := 0 }), List.toArray []⟩
noncomputable def o168_64 (P : Params) : Obj := ⟨(.type "tuple"), none, (.seq (List.toArray []) 0), List.toArray []⟩
noncomputable def o169_64 (P : Params) : Obj := ⟨.none, none, (.fields (List.toArray [])), List.toArray []⟩
noncomputable def o170_64 (P : Params) : Obj := ⟨(.type "tuple"), none, (.seq (List.toArray [(vS "body" 546), (vS "ends" 547), (vS "elses" 548), (vS "opened" 549), (vS "at" 550), (vS "instruction" 551), (vS "code" 552), (vS "begin" 553)]) 0), List.toArray []⟩
noncomputable def o171_64 (P : Params) : Obj := ⟨(.type "tuple"), none, (.seq (List.toArray []) 0), List.toArray []⟩
noncomputable def o172_64 (P : Params) : Obj := ⟨.none, none, (.func { fnB 59 with globals := 0, defaults := .none, kwdefaults := .none, doc := .none, pyModule := .none, annotations := none, code := .none, closureTuple := .none, builtins := 0 }), List.toArray []⟩
noncomputable def o173_64 (P : Params) : Obj := ⟨(.type "code"), none, (.fields (List.toArray [(vS "matches" 543), (vS "matches" 544), (vS "/claim/cut.py" 545), (.int 82 0), (.int 1 0), (.int 0 0), (.int 0 0), (.int 3 0), (.ref 168), (.bool true), (.int 181 0), (.ref 169), .none, (.ref 170), (.ref 171), (.ref 172), (.int 554 0), (.int 82 0), (vS "/claim/cut.py" 555)])), List.toArray []⟩
noncomputable def o174_64 (P : Params) : Obj := ⟨(.type "function"), none, (.func { fnB 59 with globals := 3, defaults := .none, kwdefaults := .none, doc := .none, pyModule := (vS "wasmcore.codes" 196), annotations := none, code := (.ref 173), closureTuple := .none, builtins := 0 }), List.toArray []⟩
noncomputable def o175_64 (P : Params) : Obj := ⟨(.type "tuple"), none, (.seq (List.toArray [(vS "eqz" 559), (vS "eq" 560), (vS "ne" 561), (vS "lt_s" 562), (vS "lt_u" 563), (vS "gt_s" 564), (vS "gt_u" 565), (vS "le_s" 566), (vS "le_u" 567), (vS "ge_s" 568), (vS "ge_u" 569)]) 0), List.toArray []⟩
noncomputable def o176_64 (P : Params) : Obj := ⟨(.type "tuple"), none, (.seq (List.toArray [(vS "clz" 571), (vS "ctz" 572), (vS "popcnt" 573), (vS "add" 574), (vS "sub" 575), (vS "mul" 576), (vS "div_s" 577), (vS "div_u" 578), (vS "rem_s" 579), (vS "rem_u" 580), (vS "and" 581), (vS "or" 582), (vS "xor" 583), (vS "shl" 584), (vS "shr_s" 585), (vS "shr_u" 586), (vS "rotl" 587), (vS "rotr" 588)]) 0), List.toArray []⟩
noncomputable def o177_64 (P : Params) : Obj := ⟨(.type "tuple"), none, (.seq (List.toArray [(.int 69 590), (vS "i32." 591), (.ref 175)]) 0), List.toArray []⟩
noncomputable def o178_64 (P : Params) : Obj := ⟨(.type "tuple"), none, (.seq (List.toArray [(.int 80 592), (vS "i64." 593), (.ref 175)]) 0), List.toArray []⟩
noncomputable def o179_64 (P : Params) : Obj := ⟨(.type "tuple"), none, (.seq (List.toArray [(.int 103 594), (vS "i32." 595), (.ref 176)]) 0), List.toArray []⟩
noncomputable def o180_64 (P : Params) : Obj := ⟨(.type "tuple"), none, (.seq (List.toArray [(.int 121 596), (vS "i64." 597), (.ref 176)]) 0), List.toArray []⟩
noncomputable def o181_64 (P : Params) : Obj := ⟨(.type "tuple"), none, (.seq (List.toArray [(.ref 177), (.ref 178), (.ref 179), (.ref 180)]) 0), List.toArray []⟩
noncomputable def tr64 (P : Params) : BT := (.node (o0_A P) (.node (o1_A P) (.node (o3_64 P) (.node (o7_A P) (.node (o15_50 P) (.node (o31_50 P) (.node (o63_64 P) (.node (o127_64 P) .nil .nil) .nil) (.node (o95_64 P) (.node (o159_64 P) .nil .nil) .nil)) (.node (o47_51 P) (.node (o79_64 P) (.node (o143_64 P) .nil .nil) .nil) (.node (o111_64 P) (.node (o175_64 P) .nil .nil) .nil))) (.node (o23_50 P) (.node (o39_50 P) (.node (o71_64 P) (.node (o135_64 P) .nil .nil) .nil) (.node (o103_64 P) (.node (o167_64 P) .nil .nil) .nil)) (.node (o55_64 P) (.node (o87_64 P) (.node (o151_64 P) .nil .nil) .nil) (.node (o119_64 P) .nil .nil)))) (.node (o11_A P) (.node (o19_50 P) (.node (o35_50 P) (.node (o67_64 P) (.node (o131_64 P) .nil .nil) .nil) (.node (o99_64 P) (.node (o163_64 P) .nil .nil) .nil)) (.node (o51_64 P) (.node (o83_64 P) (.node (o147_64 P) .nil .nil) .nil) (.node (o115_64 P) (.node (o179_64 P) .nil .nil) .nil))) (.node (o27_50 P) (.node (o43_50 P) (.node (o75_64 P) (.node (o139_64 P) .nil .nil) .nil) (.node (o107_64 P) (.node (o171_64 P) .nil .nil) .nil)) (.node (o59_64 P) (.node (o91_64 P) (.node (o155_64 P) .nil .nil) .nil) (.node (o123_64 P) .nil .nil))))) (.node (o5_A P) (.node (o9_A P) (.node (o17_50 P) (.node (o33_50 P) (.node (o65_64 P) (.node (o129_64 P) .nil .nil) .nil) (.node (o97_64 P) (.node (o161_64 P) .nil .nil) .nil)) (.node (o49_64 P) (.node (o81_64 P) (.node (o145_64 P) .nil .nil) .nil) (.node (o113_64 P) (.node (o177_64 P) .nil .nil) .nil))) (.node (o25_50 P) (.node (o41_50 P) (.node (o73_64 P) (.node (o137_64 P) .nil .nil) .nil) (.node (o105_64 P) (.node (o169_64 P) .nil .nil) .nil)) (.node (o57_64 P) (.node (o89_64 P) (.node (o153_64 P) .nil .nil) .nil) (.node (o121_64 P) .nil .nil)))) (.node (o13_A P) (.node (o21_50 P) (.node (o37_50 P) (.node (o69_64 P) (.node (o133_64 P) .nil .nil) .nil) (.node (o101_64 P) (.node (o165_64 P) .nil .nil) .nil)) (.node (o53_64 P) (.node (o85_64 P) (.node (o149_64 P) .nil .nil) .nil) (.node (o117_64 P) (.node (o181_64 P) .nil .nil) .nil))) (.node (o29_50 P) (.node (o45_51 P) (.node (o77_64 P) (.node (o141_64 P) .nil .nil) .nil) (.node (o109_64 P) (.node (o173_64 P) .nil .nil) .nil)) (.node (o61_64 P) (.node (o93_64 P) (.node (o157_64 P) .nil .nil) .nil) (.node (o125_64 P) .nil .nil)))))) (.node (o2_A P) (.node (o4_A P) (.node (o8_A P) (.node (o16_50 P) (.node (o32_50 P) (.node (o64_64 P) (.node (o128_64 P) .nil .nil) .nil) (.node (o96_64 P) (.node (o160_64 P) .nil .nil) .nil)) (.node (o48_64 P) (.node (o80_64 P) (.node (o144_64 P) .nil .nil) .nil) (.node (o112_64 P) (.node (o176_64 P) .nil .nil) .nil))) (.node (o24_50 P) (.node (o40_50 P) (.node (o72_64 P) (.node (o136_64 P) .nil .nil) .nil) (.node (o104_64 P) (.node (o168_64 P) .nil .nil) .nil)) (.node (o56_64 P) (.node (o88_64 P) (.node (o152_64 P) .nil .nil) .nil) (.node (o120_64 P) .nil .nil)))) (.node (o12_64 P) (.node (o20_50 P) (.node (o36_50 P) (.node (o68_64 P) (.node (o132_64 P) .nil .nil) .nil) (.node (o100_64 P) (.node (o164_64 P) .nil .nil) .nil)) (.node (o52_64 P) (.node (o84_64 P) (.node (o148_64 P) .nil .nil) .nil) (.node (o116_64 P) (.node (o180_64 P) .nil .nil) .nil))) (.node (o28_50 P) (.node (o44_50 P) (.node (o76_64 P) (.node (o140_64 P) .nil .nil) .nil) (.node (o108_64 P) (.node (o172_64 P) .nil .nil) .nil)) (.node (o60_64 P) (.node (o92_64 P) (.node (o156_64 P) .nil .nil) .nil) (.node (o124_64 P) .nil .nil))))) (.node (o6_A P) (.node (o10_A P) (.node (o18_50 P) (.node (o34_50 P) (.node (o66_64 P) (.node (o130_64 P) .nil .nil) .nil) (.node (o98_64 P) (.node (o162_64 P) .nil .nil) .nil)) (.node (o50_64 P) (.node (o82_64 P) (.node (o146_64 P) .nil .nil) .nil) (.node (o114_64 P) (.node (o178_64 P) .nil .nil) .nil))) (.node (o26_50 P) (.node (o42_50 P) (.node (o74_64 P) (.node (o138_64 P) .nil .nil) .nil) (.node (o106_64 P) (.node (o170_64 P) .nil .nil) .nil)) (.node (o58_64 P) (.node (o90_64 P) (.node (o154_64 P) .nil .nil) .nil) (.node (o122_64 P) .nil .nil)))) (.node (o14_A P) (.node (o22_50 P) (.node (o38_50 P) (.node (o70_64 P) (.node (o134_64 P) .nil .nil) .nil) (.node (o102_64 P) (.node (o166_64 P) .nil .nil) .nil)) (.node (o54_64 P) (.node (o86_64 P) (.node (o150_64 P) .nil .nil) .nil) (.node (o118_64 P) .nil .nil))) (.node (o30_50 P) (.node (o46_51 P) (.node (o78_64 P) (.node (o142_64 P) .nil .nil) .nil) (.node (o110_64 P) (.node (o174_64 P) .nil .nil) .nil)) (.node (o62_64 P) (.node (o94_64 P) (.node (o158_64 P) .nil .nil) .nil) (.node (o126_64 P) .nil .nil)))))))
noncomputable abbrev st64 (P : Params) (os : OsState) : SharedT := ⟨tr64 P, 182, {}, #[], {}, 599, os⟩
noncomputable def o3_65 (P : Params) : Obj := ⟨(.type "dict"), none, (.dict (List.toArray [eS P "__name__" 165 (vS "wasmcore.opnames" 557), eS P "__doc__" 166 .none, eS P "__package__" 167 .none, eS P "__loader__" 168 (.builtin "__main__.__loader__#opaque"), eS P "__spec__" 169 .none, eS P "__annotations__" 170 (.ref 6), eS P "__builtins__" 171 (.ref 4), eS P "__file__" 173 (vS "/claim/cut.py" 172), eS P "__cached__" 174 .none, eS P "I32" 189 (.int (-1) 188), eS P "I64" 192 (.int (-2) 191), eS P "FUNCREF" 195 (.int (-16) 194), eS P "UNREACHABLE" 199 (.int 0 198), eS P "NOP" 201 (.int 1 200), eS P "BLOCK" 203 (.int 2 202), eS P "LOOP" 205 (.int 3 204), eS P "IF" 207 (.int 4 206), eS P "ELSE" 209 (.int 5 208), eS P "END" 211 (.int 11 210), eS P "BR" 213 (.int 12 212), eS P "BR_IF" 215 (.int 13 214), eS P "BR_TABLE" 217 (.int 14 216), eS P "RETURN" 219 (.int 15 218), eS P "CALL" 221 (.int 16 220), eS P "CALL_INDIRECT" 223 (.int 17 222), eS P "RETURN_CALL" 225 (.int 18 224), eS P "RETURN_CALL_INDIRECT" 227 (.int 19 226), eS P "DROP" 229 (.int 26 228), eS P "SELECT" 231 (.int 27 230), eS P "SELECT_KINDS" 233 (.int 28 232), eS P "LOCAL_GET" 235 (.int 32 234), eS P "LOCAL_SET" 237 (.int 33 236), eS P "LOCAL_TEE" 239 (.int 34 238), eS P "GLOBAL_GET" 241 (.int 35 240), eS P "GLOBAL_SET" 243 (.int 36 242), eS P "TABLE_GET" 245 (.int 37 244), eS P "TABLE_SET" 247 (.int 38 246), eS P "MEMORY_SIZE" 249 (.int 63 248), eS P "MEMORY_GROW" 251 (.int 64 250), eS P "I32_CONST" 253 (.int 65 252), eS P "I64_CONST" 255 (.int 66 254), eS P "REF_NULL" 257 (.int 208 256), eS P "REF_IS_NULL" 259 (.int 209 258), eS P "REF_FUNC" 261 (.int 210 260), eS P "MEMORY_INIT" 263 (.int 64520 262), eS P "DATA_DROP" 265 (.int 64521 264), eS P "MEMORY_COPY" 267 (.int 64522 266), eS P "MEMORY_FILL" 269 (.int 64523 268), eS P "TABLE_INIT" 271 (.int 64524 270), eS P "ELEM_DROP" 273 (.int 64525 272), eS P "TABLE_COPY" 275 (.int 64526 274), eS P "TABLE_GROW" 277 (.int 64527 276), eS P "TABLE_SIZE" 279 (.int 64528 278), eS P "TABLE_FILL" 281 (.int 64529 280), eS P "VECTOR_PREFIX" 283 (.int 253 282), eS P "LOADS" 332 (.ref 15), eS P "STORES" 354 (.ref 28), eS P "LEFT_RANGES" 371 (.ref 44), eS P "FORMS" 456 (.ref 45), eS P "FIXED" 471 (.ref 48), eS P "NUMBERS" 496 (.ref 127), eS P "number_kind" 507 (.ref 134), eS P "form_of" 514 (.ref 141), eS P "stack_of" 521 (.ref 148), eS P "natural" 529 (.ref 155), eS P "is_block" 536 (.ref 162), eS P "is_left_out" 542 (.ref 167), eS P "matches" 556 (.ref 174), eS P "TESTS" 570 (.ref 175), eS P "SUMS" 589 (.ref 176), eS P "ROWS" 598 (.ref 181), eS P "NAMES" 806 (.ref 182)]) 72), List.toArray []⟩
noncomputable def o182_65 (P : Params) : Obj := ⟨(.type "dict"), none, (.dict (List.toArray [⟨32, (.int 32 599), (vS "local.get" 600)⟩, ⟨65, (.int 65 602), (vS "i32.const" 603)⟩, ⟨33, (.int 33 605), (vS "local.set" 606)⟩, ⟨34, (.int 34 608), (vS "local.tee" 609)⟩, ⟨66, (.int 66 611), (vS "i64.const" 612)⟩, ⟨2, (.int 2 614), (vS "block" 615)⟩, ⟨3, (.int 3 617), (vS "loop" 618)⟩, ⟨4, (.int 4 620), (vS "if" 621)⟩, ⟨5, (.int 5 623), (vS "else" 624)⟩, ⟨11, (.int 11 626), (vS "end" 627)⟩, ⟨12, (.int 12 629), (vS "br" 630)⟩, ⟨13, (.int 13 632), (vS "br_if" 633)⟩, ⟨14, (.int 14 635), (vS "br_table" 636)⟩, ⟨15, (.int 15 638), (vS "return" 639)⟩, ⟨16, (.int 16 641), (vS "call" 642)⟩, ⟨17, (.int 17 644), (vS "call_indirect" 645)⟩, ⟨26, (.int 26 647), (vS "drop" 648)⟩, ⟨27, (.int 27 650), (vS "select" 651)⟩, ⟨28, (.int 28 653), (vS "select" 654)⟩, ⟨0, (.int 0 656), (vS "unreachable" 657)⟩, ⟨1, (.int 1 659), (vS "nop" 660)⟩, ⟨18, (.int 18 662), (vS "return_call" 663)⟩, ⟨19, (.int 19 665), (vS "return_call_indirect" 666)⟩, ⟨35, (.int 35 668), (vS "global.get" 669)⟩, ⟨36, (.int 36 671), (vS "global.set" 672)⟩, ⟨37, (.int 37 674), (vS "table.get" 675)⟩, ⟨38, (.int 38 677), (vS "table.set" 678)⟩, ⟨40, (.int 40 680), (vS "i32.load" 681)⟩, ⟨41, (.int 41 683), (vS "i64.load" 684)⟩, ⟨44, (.int 44 686), (vS "i32.load8_s" 687)⟩, ⟨45, (.int 45 689), (vS "i32.load8_u" 690)⟩, ⟨46, (.int 46 692), (vS "i32.load16_s" 693)⟩, ⟨47, (.int 47 695), (vS "i32.load16_u" 696)⟩, ⟨48, (.int 48 698), (vS "i64.load8_s" 699)⟩, ⟨49, (.int 49 701), (vS "i64.load8_u" 702)⟩, ⟨50, (.int 50 704), (vS "i64.load16_s" 705)⟩, ⟨51, (.int 51 707), (vS "i64.load16_u" 708)⟩, ⟨52, (.int 52 710), (vS "i64.load32_s" 711)⟩, ⟨53, (.int 53 713), (vS "i64.load32_u" 714)⟩, ⟨54, (.int 54 716), (vS "i32.store" 717)⟩, ⟨55, (.int 55 719), (vS "i64.store" 720)⟩, ⟨58, (.int 58 722), (vS "i32.store8" 723)⟩, ⟨59, (.int 59 725), (vS "i32.store16" 726)⟩, ⟨60, (.int 60 728), (vS "i64.store8" 729)⟩, ⟨61, (.int 61 731), (vS "i64.store16" 732)⟩, ⟨62, (.int 62 734), (vS "i64.store32" 735)⟩, ⟨63, (.int 63 737), (vS "memory.size" 738)⟩, ⟨64, (.int 64 740), (vS "memory.grow" 741)⟩, ⟨167, (.int 167 743), (vS "i32.wrap_i64" 744)⟩, ⟨172, (.int 172 746), (vS "i64.extend_i32_s" 747)⟩, ⟨173, (.int 173 749), (vS "i64.extend_i32_u" 750)⟩, ⟨192, (.int 192 752), (vS "i32.extend8_s" 753)⟩, ⟨193, (.int 193 755), (vS "i32.extend16_s" 756)⟩, ⟨194, (.int 194 758), (vS "i64.extend8_s" 759)⟩, ⟨195, (.int 195 761), (vS "i64.extend16_s" 762)⟩, ⟨196, (.int 196 764), (vS "i64.extend32_s" 765)⟩, ⟨208, (.int 208 767), (vS "ref.null" 768)⟩, ⟨209, (.int 209 770), (vS "ref.is_null" 771)⟩, ⟨210, (.int 210 773), (vS "ref.func" 774)⟩, ⟨64520, (.int 64520 776), (vS "memory.init" 777)⟩, ⟨64521, (.int 64521 779), (vS "data.drop" 780)⟩, ⟨64522, (.int 64522 782), (vS "memory.copy" 783)⟩, ⟨64523, (.int 64523 785), (vS "memory.fill" 786)⟩, ⟨64524, (.int 64524 788), (vS "table.init" 789)⟩, ⟨64525, (.int 64525 791), (vS "elem.drop" 792)⟩, ⟨64526, (.int 64526 794), (vS "table.copy" 795)⟩, ⟨64527, (.int 64527 797), (vS "table.grow" 798)⟩, ⟨64528, (.int 64528 800), (vS "table.size" 801)⟩, ⟨64529, (.int 64529 803), (vS "table.fill" 804)⟩]) 69), List.toArray []⟩
noncomputable def o183_65 (P : Params) : Obj := ⟨(.type "dict"), none, (.dict (List.toArray [⟨27, (.int 27 650), (vS "select" 651)⟩, ⟨28, (.int 28 653), (vS "select" 654)⟩, ⟨0, (.int 0 656), (vS "unreachable" 657)⟩, ⟨1, (.int 1 659), (vS "nop" 660)⟩, ⟨18, (.int 18 662), (vS "return_call" 663)⟩, ⟨19, (.int 19 665), (vS "return_call_indirect" 666)⟩, ⟨35, (.int 35 668), (vS "global.get" 669)⟩, ⟨36, (.int 36 671), (vS "global.set" 672)⟩, ⟨37, (.int 37 674), (vS "table.get" 675)⟩, ⟨38, (.int 38 677), (vS "table.set" 678)⟩, ⟨40, (.int 40 680), (vS "i32.load" 681)⟩, ⟨41, (.int 41 683), (vS "i64.load" 684)⟩, ⟨44, (.int 44 686), (vS "i32.load8_s" 687)⟩, ⟨45, (.int 45 689), (vS "i32.load8_u" 690)⟩, ⟨46, (.int 46 692), (vS "i32.load16_s" 693)⟩, ⟨47, (.int 47 695), (vS "i32.load16_u" 696)⟩, ⟨48, (.int 48 698), (vS "i64.load8_s" 699)⟩]) 17), List.toArray []⟩
noncomputable def o184_65 (P : Params) : Obj := ⟨(.type "dict"), none, (.dict (List.toArray [⟨49, (.int 49 701), (vS "i64.load8_u" 702)⟩, ⟨50, (.int 50 704), (vS "i64.load16_s" 705)⟩, ⟨51, (.int 51 707), (vS "i64.load16_u" 708)⟩, ⟨52, (.int 52 710), (vS "i64.load32_s" 711)⟩, ⟨53, (.int 53 713), (vS "i64.load32_u" 714)⟩, ⟨54, (.int 54 716), (vS "i32.store" 717)⟩, ⟨55, (.int 55 719), (vS "i64.store" 720)⟩, ⟨58, (.int 58 722), (vS "i32.store8" 723)⟩, ⟨59, (.int 59 725), (vS "i32.store16" 726)⟩, ⟨60, (.int 60 728), (vS "i64.store8" 729)⟩, ⟨61, (.int 61 731), (vS "i64.store16" 732)⟩, ⟨62, (.int 62 734), (vS "i64.store32" 735)⟩, ⟨63, (.int 63 737), (vS "memory.size" 738)⟩, ⟨64, (.int 64 740), (vS "memory.grow" 741)⟩, ⟨167, (.int 167 743), (vS "i32.wrap_i64" 744)⟩, ⟨172, (.int 172 746), (vS "i64.extend_i32_s" 747)⟩, ⟨173, (.int 173 749), (vS "i64.extend_i32_u" 750)⟩]) 17), List.toArray []⟩
noncomputable def o185_65 (P : Params) : Obj := ⟨(.type "dict"), none, (.dict (List.toArray [⟨192, (.int 192 752), (vS "i32.extend8_s" 753)⟩, ⟨193, (.int 193 755), (vS "i32.extend16_s" 756)⟩, ⟨194, (.int 194 758), (vS "i64.extend8_s" 759)⟩, ⟨195, (.int 195 761), (vS "i64.extend16_s" 762)⟩, ⟨196, (.int 196 764), (vS "i64.extend32_s" 765)⟩, ⟨208, (.int 208 767), (vS "ref.null" 768)⟩, ⟨209, (.int 209 770), (vS "ref.is_null" 771)⟩, ⟨210, (.int 210 773), (vS "ref.func" 774)⟩, ⟨64520, (.int 64520 776), (vS "memory.init" 777)⟩, ⟨64521, (.int 64521 779), (vS "data.drop" 780)⟩, ⟨64522, (.int 64522 782), (vS "memory.copy" 783)⟩, ⟨64523, (.int 64523 785), (vS "memory.fill" 786)⟩, ⟨64524, (.int 64524 788), (vS "table.init" 789)⟩, ⟨64525, (.int 64525 791), (vS "elem.drop" 792)⟩, ⟨64526, (.int 64526 794), (vS "table.copy" 795)⟩, ⟨64527, (.int 64527 797), (vS "table.grow" 798)⟩, ⟨64528, (.int 64528 800), (vS "table.size" 801)⟩]) 17), List.toArray []⟩
noncomputable def o186_65 (P : Params) : Obj := ⟨(.type "dict"), none, (.dict (List.toArray [⟨64529, (.int 64529 803), (vS "table.fill" 804)⟩]) 1), List.toArray []⟩
noncomputable def tr65 (P : Params) : BT := (.node (o0_A P) (.node (o1_A P) (.node (o3_65 P) (.node (o7_A P) (.node (o15_50 P) (.node (o31_50 P) (.node (o63_64 P) (.node (o127_64 P) .nil .nil) .nil) (.node (o95_64 P) (.node (o159_64 P) .nil .nil) .nil)) (.node (o47_51 P) (.node (o79_64 P) (.node (o143_64 P) .nil .nil) .nil) (.node (o111_64 P) (.node (o175_64 P) .nil .nil) .nil))) (.node (o23_50 P) (.node (o39_50 P) (.node (o71_64 P) (.node (o135_64 P) .nil .nil) .nil) (.node (o103_64 P) (.node (o167_64 P) .nil .nil) .nil)) (.node (o55_64 P) (.node (o87_64 P) (.node (o151_64 P) .nil .nil) .nil) (.node (o119_64 P) (.node (o183_65 P) .nil .nil) .nil)))) (.node (o11_A P) (.node (o19_50 P) (.node (o35_50 P) (.node (o67_64 P) (.node (o131_64 P) .nil .nil) .nil) (.node (o99_64 P) (.node (o163_64 P) .nil .nil) .nil)) (.node (o51_64 P) (.node (o83_64 P) (.node (o147_64 P) .nil .nil) .nil) (.node (o115_64 P) (.node (o179_64 P) .nil .nil) .nil))) (.node (o27_50 P) (.node (o43_50 P) (.node (o75_64 P) (.node (o139_64 P) .nil .nil) .nil) (.node (o107_64 P) (.node (o171_64 P) .nil .nil) .nil)) (.node (o59_64 P) (.node (o91_64 P) (.node (o155_64 P) .nil .nil) .nil) (.node (o123_64 P) .nil .nil))))) (.node (o5_A P) (.node (o9_A P) (.node (o17_50 P) (.node (o33_50 P) (.node (o65_64 P) (.node (o129_64 P) .nil .nil) .nil) (.node (o97_64 P) (.node (o161_64 P) .nil .nil) .nil)) (.node (o49_64 P) (.node (o81_64 P) (.node (o145_64 P) .nil .nil) .nil) (.node (o113_64 P) (.node (o177_64 P) .nil .nil) .nil))) (.node (o25_50 P) (.node (o41_50 P) (.node (o73_64 P) (.node (o137_64 P) .nil .nil) .nil) (.node (o105_64 P) (.node (o169_64 P) .nil .nil) .nil)) (.node (o57_64 P) (.node (o89_64 P) (.node (o153_64 P) .nil .nil) .nil) (.node (o121_64 P) (.node (o185_65 P) .nil .nil) .nil)))) (.node (o13_A P) (.node (o21_50 P) (.node (o37_50 P) (.node (o69_64 P) (.node (o133_64 P) .nil .nil) .nil) (.node (o101_64 P) (.node (o165_64 P) .nil .nil) .nil)) (.node (o53_64 P) (.node (o85_64 P) (.node (o149_64 P) .nil .nil) .nil) (.node (o117_64 P) (.node (o181_64 P) .nil .nil) .nil))) (.node (o29_50 P) (.node (o45_51 P) (.node (o77_64 P) (.node (o141_64 P) .nil .nil) .nil) (.node (o109_64 P) (.node (o173_64 P) .nil .nil) .nil)) (.node (o61_64 P) (.node (o93_64 P) (.node (o157_64 P) .nil .nil) .nil) (.node (o125_64 P) .nil .nil)))))) (.node (o2_A P) (.node (o4_A P) (.node (o8_A P) (.node (o16_50 P) (.node (o32_50 P) (.node (o64_64 P) (.node (o128_64 P) .nil .nil) .nil) (.node (o96_64 P) (.node (o160_64 P) .nil .nil) .nil)) (.node (o48_64 P) (.node (o80_64 P) (.node (o144_64 P) .nil .nil) .nil) (.node (o112_64 P) (.node (o176_64 P) .nil .nil) .nil))) (.node (o24_50 P) (.node (o40_50 P) (.node (o72_64 P) (.node (o136_64 P) .nil .nil) .nil) (.node (o104_64 P) (.node (o168_64 P) .nil .nil) .nil)) (.node (o56_64 P) (.node (o88_64 P) (.node (o152_64 P) .nil .nil) .nil) (.node (o120_64 P) (.node (o184_65 P) .nil .nil) .nil)))) (.node (o12_64 P) (.node (o20_50 P) (.node (o36_50 P) (.node (o68_64 P) (.node (o132_64 P) .nil .nil) .nil) (.node (o100_64 P) (.node (o164_64 P) .nil .nil) .nil)) (.node (o52_64 P) (.node (o84_64 P) (.node (o148_64 P) .nil .nil) .nil) (.node (o116_64 P) (.node (o180_64 P) .nil .nil) .nil))) (.node (o28_50 P) (.node (o44_50 P) (.node (o76_64 P) (.node (o140_64 P) .nil .nil) .nil) (.node (o108_64 P) (.node (o172_64 P) .nil .nil) .nil)) (.node (o60_64 P) (.node (o92_64 P) (.node (o156_64 P) .nil .nil) .nil) (.node (o124_64 P) .nil .nil))))) (.node (o6_A P) (.node (o10_A P) (.node (o18_50 P) (.node (o34_50 P) (.node (o66_64 P) (.node (o130_64 P) .nil .nil) .nil) (.node (o98_64 P) (.node (o162_64 P) .nil .nil) .nil)) (.node (o50_64 P) (.node (o82_64 P) (.node (o146_64 P) .nil .nil) .nil) (.node (o114_64 P) (.node (o178_64 P) .nil .nil) .nil))) (.node (o26_50 P) (.node (o42_50 P) (.node (o74_64 P) (.node (o138_64 P) .nil .nil) .nil) (.node (o106_64 P) (.node (o170_64 P) .nil .nil) .nil)) (.node (o58_64 P) (.node (o90_64 P) (.node (o154_64 P) .nil .nil) .nil) (.node (o122_64 P) (.node (o186_65 P) .nil .nil) .nil)))) (.node (o14_A P) (.node (o22_50 P) (.node (o38_50 P) (.node (o70_64 P) (.node (o134_64 P) .nil .nil) .nil) (.node (o102_64 P) (.node (o166_64 P) .nil .nil) .nil)) (.node (o54_64 P) (.node (o86_64 P) (.node (o150_64 P) .nil .nil) .nil) (.node (o118_64 P) (.node (o182_65 P) .nil .nil) .nil))) (.node (o30_50 P) (.node (o46_51 P) (.node (o78_64 P) (.node (o142_64 P) .nil .nil) .nil) (.node (o110_64 P) (.node (o174_64 P) .nil .nil) .nil)) (.node (o62_64 P) (.node (o94_64 P) (.node (o158_64 P) .nil .nil) .nil) (.node (o126_64 P) .nil .nil)))))))
noncomputable abbrev st65 (P : Params) (os : OsState) : SharedT := ⟨tr65 P, 187, {}, #[], {}, 807, os⟩
noncomputable def o3_80 (P : Params) : Obj := ⟨(.type "dict"), none, (.dict (List.toArray [eS P "__name__" 165 (vS "law_nm0118_01" 835), eS P "__doc__" 166 .none, eS P "__package__" 167 .none, eS P "__loader__" 168 (.builtin "__main__.__loader__#opaque"), eS P "__spec__" 169 .none, eS P "__annotations__" 170 (.ref 6), eS P "__builtins__" 171 (.ref 4), eS P "__file__" 173 (vS "/claim/cut.py" 172), eS P "__cached__" 174 .none, eS P "I32" 189 (.int (-1) 188), eS P "I64" 192 (.int (-2) 191), eS P "FUNCREF" 195 (.int (-16) 194), eS P "UNREACHABLE" 199 (.int 0 198), eS P "NOP" 201 (.int 1 200), eS P "BLOCK" 203 (.int 2 202), eS P "LOOP" 205 (.int 3 204), eS P "IF" 207 (.int 4 206), eS P "ELSE" 209 (.int 5 208), eS P "END" 211 (.int 11 210), eS P "BR" 213 (.int 12 212), eS P "BR_IF" 215 (.int 13 214), eS P "BR_TABLE" 217 (.int 14 216), eS P "RETURN" 219 (.int 15 218), eS P "CALL" 221 (.int 16 220), eS P "CALL_INDIRECT" 223 (.int 17 222), eS P "RETURN_CALL" 225 (.int 18 224), eS P "RETURN_CALL_INDIRECT" 227 (.int 19 226), eS P "DROP" 229 (.int 26 228), eS P "SELECT" 231 (.int 27 230), eS P "SELECT_KINDS" 233 (.int 28 232), eS P "LOCAL_GET" 235 (.int 32 234), eS P "LOCAL_SET" 237 (.int 33 236), eS P "LOCAL_TEE" 239 (.int 34 238), eS P "GLOBAL_GET" 241 (.int 35 240), eS P "GLOBAL_SET" 243 (.int 36 242), eS P "TABLE_GET" 245 (.int 37 244), eS P "TABLE_SET" 247 (.int 38 246), eS P "MEMORY_SIZE" 249 (.int 63 248), eS P "MEMORY_GROW" 251 (.int 64 250), eS P "I32_CONST" 253 (.int 65 252), eS P "I64_CONST" 255 (.int 66 254), eS P "REF_NULL" 257 (.int 208 256), eS P "REF_IS_NULL" 259 (.int 209 258), eS P "REF_FUNC" 261 (.int 210 260), eS P "MEMORY_INIT" 263 (.int 64520 262), eS P "DATA_DROP" 265 (.int 64521 264), eS P "MEMORY_COPY" 267 (.int 64522 266), eS P "MEMORY_FILL" 269 (.int 64523 268), eS P "TABLE_INIT" 271 (.int 64524 270), eS P "ELEM_DROP" 273 (.int 64525 272), eS P "TABLE_COPY" 275 (.int 64526 274), eS P "TABLE_GROW" 277 (.int 64527 276), eS P "TABLE_SIZE" 279 (.int 64528 278), eS P "TABLE_FILL" 281 (.int 64529 280), eS P "VECTOR_PREFIX" 283 (.int 253 282), eS P "LOADS" 332 (.ref 15), eS P "STORES" 354 (.ref 28), eS P "LEFT_RANGES" 371 (.ref 44), eS P "FORMS" 456 (.ref 45), eS P "FIXED" 471 (.ref 48), eS P "NUMBERS" 496 (.ref 127), eS P "number_kind" 507 (.ref 134), eS P "form_of" 514 (.ref 141), eS P "stack_of" 521 (.ref 148), eS P "natural" 529 (.ref 155), eS P "is_block" 536 (.ref 162), eS P "is_left_out" 542 (.ref 167), eS P "matches" 556 (.ref 174), eS P "TESTS" 570 (.ref 175), eS P "SUMS" 589 (.ref 176), eS P "ROWS" 598 (.ref 181), eS P "NAMES" 806 (.ref 182), eS P "name_of" 816 (.ref 193), eS P "code_of" 827 (.ref 200), eS P "is_left_word" 834 (.ref 207), eS P "_law_names" 854 (.ref 214), eS P "_law_is_float" 861 (.ref 221), eS P "_law_codes" 870 (.ref 228), eS P "_law_form" 880 (.ref 235), eS P "_law_stack" 891 (.ref 242), eS P "_law_is_access" 908 (.ref 249), eS P "_law_is_told" 919 (.ref 256), eS P "_law_plain" 927 (.ref 263), eS P "_law_body" 939 (.ref 270), eS P "_law_due" 953 (.ref 277), eS P "law" 959 (.ref 282)]) 86), List.toArray []⟩
noncomputable def o12_80 (P : Params) : Obj := ⟨.none, none, (.fields (List.toArray [(.int 54 0), (.int 0 0), (.ref 133), (.int 59 0), (.int 0 0), (.ref 140), (.int 65 0), (.int 0 0), (.ref 147), (.int 73 0), (.int 0 0), (.ref 154), (.int 76 0), (.int 0 0), (.ref 161), (.int 78 0), (.int 0 0), (.ref 166), (.int 82 0), (.int 0 0), (.ref 173), (.int 101 0), (.int 0 0), (.ref 192), (.int 108 0), (.int 0 0), (.ref 199), (.int 116 0), (.int 0 0), (.ref 206), (.int 121 0), (.int 0 0), (.ref 213), (.int 133 0), (.int 0 0), (.ref 220), (.int 135 0), (.int 0 0), (.ref 227), (.int 141 0), (.int 0 0), (.ref 234), (.int 163 0), (.int 0 0), (.ref 241), (.int 196 0), (.int 0 0), (.ref 248), (.int 208 0), (.int 0 0), (.ref 255), (.int 222 0), (.int 0 0), (.ref 262), (.int 225 0), (.int 0 0), (.ref 269), (.int 241 0), (.int 0 0), (.ref 276), (.int 260 0), (.int 0 0), (.ref 281)])), List.toArray []⟩
noncomputable def o187_80 (P : Params) : Obj := ⟨(.type "tuple"), none, (.seq (List.toArray []) 0), List.toArray []⟩
noncomputable def o188_80 (P : Params) : Obj := ⟨.none, none, (.fields (List.toArray [])), List.toArray []⟩
noncomputable def o189_80 (P : Params) : Obj := ⟨(.type "tuple"), none, (.seq (List.toArray [(vS "code" 810), (vS "first" 811), (vS "prefix" 812), (vS "words" 813)]) 0), List.toArray []⟩
noncomputable def o190_80 (P : Params) : Obj := ⟨(.type "tuple"), none, (.seq (List.toArray []) 0), List.toArray []⟩
noncomputable def o191_80 (P : Params) : Obj := ⟨.none, none, (.func { fnB 65 with globals := 0, defaults := .none, kwdefaults := .none, doc := .none, pyModule := .none, annotations := none, code := .none, closureTuple := .none, builtins := 0 }), List.toArray []⟩
noncomputable def o192_80 (P : Params) : Obj := ⟨(.type "code"), none, (.fields (List.toArray [(vS "name_of" 807), (vS "name_of" 808), (vS "/claim/cut.py" 809), (.int 101 0), (.int 1 0), (.int 0 0), (.int 0 0), (.int 3 0), (.ref 187), (.bool true), (.int 181 0), (.ref 188), .none, (.ref 189), (.ref 190), (.ref 191), (.int 814 0), (.int 101 0), (vS "/claim/cut.py" 815)])), List.toArray []⟩
noncomputable def o193_80 (P : Params) : Obj := ⟨(.type "function"), none, (.func { fnB 65 with globals := 3, defaults := .none, kwdefaults := .none, doc := .none, pyModule := (vS "wasmcore.opnames" 557), annotations := none, code := (.ref 192), closureTuple := .none, builtins := 0 }), List.toArray []⟩
noncomputable def o194_80 (P : Params) : Obj := ⟨(.type "tuple"), none, (.seq (List.toArray []) 0), List.toArray []⟩
noncomputable def o195_80 (P : Params) : Obj := ⟨.none, none, (.fields (List.toArray [])), List.toArray []⟩
noncomputable def o196_80 (P : Params) : Obj := ⟨(.type "tuple"), none, (.seq (List.toArray [(vS "name" 820), (vS "first" 821), (vS "prefix" 822), (vS "words" 823), (vS "code" 824)]) 0), List.toArray []⟩
noncomputable def o197_80 (P : Params) : Obj := ⟨(.type "tuple"), none, (.seq (List.toArray []) 0), List.toArray []⟩
noncomputable def o198_80 (P : Params) : Obj := ⟨.none, none, (.func { fnB 66 with globals := 0, defaults := .none, kwdefaults := .none, doc := .none, pyModule := .none, annotations := none, code := .none, closureTuple := .none, builtins := 0 }), List.toArray []⟩
noncomputable def o199_80 (P : Params) : Obj := ⟨(.type "code"), none, (.fields (List.toArray [(vS "code_of" 817), (vS "code_of" 818), (vS "/claim/cut.py" 819), (.int 108 0), (.int 1 0), (.int 0 0), (.int 0 0), (.int 3 0), (.ref 194), (.bool true), (.int 181 0), (.ref 195), .none, (.ref 196), (.ref 197), (.ref 198), (.int 825 0), (.int 108 0), (vS "/claim/cut.py" 826)])), List.toArray []⟩
noncomputable def o200_80 (P : Params) : Obj := ⟨(.type "function"), none, (.func { fnB 66 with globals := 3, defaults := .none, kwdefaults := .none, doc := .none, pyModule := (vS "wasmcore.opnames" 557), annotations := none, code := (.ref 199), closureTuple := .none, builtins := 0 }), List.toArray []⟩
noncomputable def o201_80 (P : Params) : Obj := ⟨(.type "tuple"), none, (.seq (List.toArray []) 0), List.toArray []⟩
noncomputable def o202_80 (P : Params) : Obj := ⟨.none, none, (.fields (List.toArray [])), List.toArray []⟩
noncomputable def o203_80 (P : Params) : Obj := ⟨(.type "tuple"), none, (.seq (List.toArray [(vS "word" 831)]) 0), List.toArray []⟩
noncomputable def o204_80 (P : Params) : Obj := ⟨(.type "tuple"), none, (.seq (List.toArray []) 0), List.toArray []⟩
noncomputable def o205_80 (P : Params) : Obj := ⟨.none, none, (.func { fnB 67 with globals := 0, defaults := .none, kwdefaults := .none, doc := .none, pyModule := .none, annotations := none, code := .none, closureTuple := .none, builtins := 0 }), List.toArray []⟩
noncomputable def o206_80 (P : Params) : Obj := ⟨(.type "code"), none, (.fields (List.toArray [(vS "is_left_word" 828), (vS "is_left_word" 829), (vS "/claim/cut.py" 830), (.int 116 0), (.int 1 0), (.int 0 0), (.int 0 0), (.int 3 0), (.ref 201), (.bool true), (.int 181 0), (.ref 202), .none, (.ref 203), (.ref 204), (.ref 205), (.int 832 0), (.int 116 0), (vS "/claim/cut.py" 833)])), List.toArray []⟩
noncomputable def o207_80 (P : Params) : Obj := ⟨(.type "function"), none, (.func { fnB 67 with globals := 3, defaults := .none, kwdefaults := .none, doc := .none, pyModule := (vS "wasmcore.opnames" 557), annotations := none, code := (.ref 206), closureTuple := .none, builtins := 0 }), List.toArray []⟩
noncomputable def o208_80 (P : Params) : Obj := ⟨(.type "tuple"), none, (.seq (List.toArray []) 0), List.toArray []⟩
noncomputable def o209_80 (P : Params) : Obj := ⟨.none, none, (.fields (List.toArray [])), List.toArray []⟩
noncomputable def o210_80 (P : Params) : Obj := ⟨(.type "tuple"), none, (.seq (List.toArray [(vS "tests" 840), (vS "whole" 841), (vS "points" 842), (vS "cuts" 843), (vS "turns" 844), (vS "rows" 845), (vS "names" 846), (vS "first" 847), (vS "head" 848), (vS "words" 849), (vS "k" 850), (vS "word" 851)]) 0), List.toArray []⟩
noncomputable def o211_80 (P : Params) : Obj := ⟨(.type "tuple"), none, (.seq (List.toArray []) 0), List.toArray []⟩
noncomputable def o212_80 (P : Params) : Obj := ⟨.none, none, (.func { fnB 69 with globals := 0, defaults := .none, kwdefaults := .none, doc := .none, pyModule := .none, annotations := none, code := .none, closureTuple := .none, builtins := 0 }), List.toArray []⟩
noncomputable def o213_80 (P : Params) : Obj := ⟨(.type "code"), none, (.fields (List.toArray [(vS "_law_names" 837), (vS "_law_names" 838), (vS "/claim/cut.py" 839), (.int 121 0), (.int 0 0), (.int 0 0), (.int 0 0), (.int 3 0), (.ref 208), (.bool true), (.int 181 0), (.ref 209), .none, (.ref 210), (.ref 211), (.ref 212), (.int 852 0), (.int 121 0), (vS "/claim/cut.py" 853)])), List.toArray []⟩
noncomputable def o214_80 (P : Params) : Obj := ⟨(.type "function"), none, (.func { fnB 69 with globals := 3, defaults := .none, kwdefaults := .none, doc := .none, pyModule := (vS "law_nm0118_01" 835), annotations := none, code := (.ref 213), closureTuple := .none, builtins := 0 }), List.toArray []⟩
noncomputable def o215_80 (P : Params) : Obj := ⟨(.type "tuple"), none, (.seq (List.toArray []) 0), List.toArray []⟩
noncomputable def o216_80 (P : Params) : Obj := ⟨.none, none, (.fields (List.toArray [])), List.toArray []⟩
noncomputable def o217_80 (P : Params) : Obj := ⟨(.type "tuple"), none, (.seq (List.toArray [(vS "name" 858)]) 0), List.toArray []⟩
noncomputable def o218_80 (P : Params) : Obj := ⟨(.type "tuple"), none, (.seq (List.toArray []) 0), List.toArray []⟩
noncomputable def o219_80 (P : Params) : Obj := ⟨.none, none, (.func { fnB 70 with globals := 0, defaults := .none, kwdefaults := .none, doc := .none, pyModule := .none, annotations := none, code := .none, closureTuple := .none, builtins := 0 }), List.toArray []⟩
noncomputable def o220_80 (P : Params) : Obj := ⟨(.type "code"), none, (.fields (List.toArray [(vS "_law_is_float" 855), (vS "_law_is_float" 856), (vS "/claim/cut.py" 857), (.int 133 0), (.int 1 0), (.int 0 0), (.int 0 0), (.int 3 0), (.ref 215), (.bool true), (.int 181 0), (.ref 216), .none, (.ref 217), (.ref 218), (.ref 219), (.int 859 0), (.int 133 0), (vS "/claim/cut.py" 860)])), List.toArray []⟩
noncomputable def o221_80 (P : Params) : Obj := ⟨(.type "function"), none, (.func { fnB 70 with globals := 3, defaults := .none, kwdefaults := .none, doc := .none, pyModule := (vS "law_nm0118_01" 835), annotations := none, code := (.ref 220), closureTuple := .none, builtins := 0 }), List.toArray []⟩
noncomputable def o222_80 (P : Params) : Obj := ⟨(.type "tuple"), none, (.seq (List.toArray []) 0), List.toArray []⟩
noncomputable def o223_80 (P : Params) : Obj := ⟨.none, none, (.fields (List.toArray [])), List.toArray []⟩
noncomputable def o224_80 (P : Params) : Obj := ⟨(.type "tuple"), none, (.seq (List.toArray [(vS "names" 865), (vS "codes" 866), (vS "code" 867)]) 0), List.toArray []⟩
noncomputable def o225_80 (P : Params) : Obj := ⟨(.type "tuple"), none, (.seq (List.toArray []) 0), List.toArray []⟩
noncomputable def o226_80 (P : Params) : Obj := ⟨.none, none, (.func { fnB 71 with globals := 0, defaults := .none, kwdefaults := .none, doc := .none, pyModule := .none, annotations := none, code := .none, closureTuple := .none, builtins := 0 }), List.toArray []⟩
noncomputable def o227_80 (P : Params) : Obj := ⟨(.type "code"), none, (.fields (List.toArray [(vS "_law_codes" 862), (vS "_law_codes" 863), (vS "/claim/cut.py" 864), (.int 135 0), (.int 1 0), (.int 0 0), (.int 0 0), (.int 3 0), (.ref 222), (.bool true), (.int 181 0), (.ref 223), .none, (.ref 224), (.ref 225), (.ref 226), (.int 868 0), (.int 135 0), (vS "/claim/cut.py" 869)])), List.toArray []⟩
noncomputable def o228_80 (P : Params) : Obj := ⟨(.type "function"), none, (.func { fnB 71 with globals := 3, defaults := .none, kwdefaults := .none, doc := .none, pyModule := (vS "law_nm0118_01" 835), annotations := none, code := (.ref 227), closureTuple := .none, builtins := 0 }), List.toArray []⟩
noncomputable def o229_80 (P : Params) : Obj := ⟨(.type "tuple"), none, (.seq (List.toArray []) 0), List.toArray []⟩
noncomputable def o230_80 (P : Params) : Obj := ⟨.none, none, (.fields (List.toArray [])), List.toArray []⟩
noncomputable def o231_80 (P : Params) : Obj := ⟨(.type "tuple"), none, (.seq (List.toArray [(vS "code" 874), (vS "name" 875), (vS "own" 876), (vS "place" 877)]) 0), List.toArray []⟩
noncomputable def o232_80 (P : Params) : Obj := ⟨(.type "tuple"), none, (.seq (List.toArray []) 0), List.toArray []⟩
noncomputable def o233_80 (P : Params) : Obj := ⟨.none, none, (.func { fnB 72 with globals := 0, defaults := .none, kwdefaults := .none, doc := .none, pyModule := .none, annotations := none, code := .none, closureTuple := .none, builtins := 0 }), List.toArray []⟩
noncomputable def o234_80 (P : Params) : Obj := ⟨(.type "code"), none, (.fields (List.toArray [(vS "_law_form" 871), (vS "_law_form" 872), (vS "/claim/cut.py" 873), (.int 141 0), (.int 2 0), (.int 0 0), (.int 0 0), (.int 3 0), (.ref 229), (.bool true), (.int 181 0), (.ref 230), .none, (.ref 231), (.ref 232), (.ref 233), (.int 878 0), (.int 141 0), (vS "/claim/cut.py" 879)])), List.toArray []⟩
noncomputable def o235_80 (P : Params) : Obj := ⟨(.type "function"), none, (.func { fnB 72 with globals := 3, defaults := .none, kwdefaults := .none, doc := .none, pyModule := (vS "law_nm0118_01" 835), annotations := none, code := (.ref 234), closureTuple := .none, builtins := 0 }), List.toArray []⟩
noncomputable def o236_80 (P : Params) : Obj := ⟨(.type "tuple"), none, (.seq (List.toArray []) 0), List.toArray []⟩
noncomputable def o237_80 (P : Params) : Obj := ⟨.none, none, (.fields (List.toArray [])), List.toArray []⟩
noncomputable def o238_80 (P : Params) : Obj := ⟨(.type "tuple"), none, (.seq (List.toArray [(vS "name" 884), (vS "parts" 885), (vS "place" 886), (vS "act" 887), (vS "kind" 888)]) 0), List.toArray []⟩
noncomputable def o239_80 (P : Params) : Obj := ⟨(.type "tuple"), none, (.seq (List.toArray []) 0), List.toArray []⟩
noncomputable def o240_80 (P : Params) : Obj := ⟨.none, none, (.func { fnB 73 with globals := 0, defaults := .none, kwdefaults := .none, doc := .none, pyModule := .none, annotations := none, code := .none, closureTuple := .none, builtins := 0 }), List.toArray []⟩
noncomputable def o241_80 (P : Params) : Obj := ⟨(.type "code"), none, (.fields (List.toArray [(vS "_law_stack" 881), (vS "_law_stack" 882), (vS "/claim/cut.py" 883), (.int 163 0), (.int 1 0), (.int 0 0), (.int 0 0), (.int 3 0), (.ref 236), (.bool true), (.int 181 0), (.ref 237), .none, (.ref 238), (.ref 239), (.ref 240), (.int 889 0), (.int 163 0), (vS "/claim/cut.py" 890)])), List.toArray []⟩
noncomputable def o242_80 (P : Params) : Obj := ⟨(.type "function"), none, (.func { fnB 73 with globals := 3, defaults := .none, kwdefaults := .none, doc := .none, pyModule := (vS "law_nm0118_01" 835), annotations := none, code := (.ref 241), closureTuple := .none, builtins := 0 }), List.toArray []⟩
noncomputable def o243_80 (P : Params) : Obj := ⟨(.type "tuple"), none, (.seq (List.toArray []) 0), List.toArray []⟩
noncomputable def o244_80 (P : Params) : Obj := ⟨.none, none, (.fields (List.toArray [])), List.toArray []⟩
noncomputable def o245_80 (P : Params) : Obj := ⟨(.type "tuple"), none, (.seq (List.toArray [(vS "code" 895), (vS "name" 896), (vS "act" 897), (vS "is_load" 898), (vS "is_store" 899), (vS "kind" 900), (vS "power" 901), (vS "k" 902), (vS "bits" 903), (vS "load" 904), (vS "store" 905)]) 0), List.toArray []⟩
noncomputable def o246_80 (P : Params) : Obj := ⟨(.type "tuple"), none, (.seq (List.toArray []) 0), List.toArray []⟩
noncomputable def o247_80 (P : Params) : Obj := ⟨.none, none, (.func { fnB 74 with globals := 0, defaults := .none, kwdefaults := .none, doc := .none, pyModule := .none, annotations := none, code := .none, closureTuple := .none, builtins := 0 }), List.toArray []⟩
noncomputable def o248_80 (P : Params) : Obj := ⟨(.type "code"), none, (.fields (List.toArray [(vS "_law_is_access" 892), (vS "_law_is_access" 893), (vS "/claim/cut.py" 894), (.int 196 0), (.int 2 0), (.int 0 0), (.int 0 0), (.int 3 0), (.ref 243), (.bool true), (.int 181 0), (.ref 244), .none, (.ref 245), (.ref 246), (.ref 247), (.int 906 0), (.int 196 0), (vS "/claim/cut.py" 907)])), List.toArray []⟩
noncomputable def o249_80 (P : Params) : Obj := ⟨(.type "function"), none, (.func { fnB 74 with globals := 3, defaults := .none, kwdefaults := .none, doc := .none, pyModule := (vS "law_nm0118_01" 835), annotations := none, code := (.ref 248), closureTuple := .none, builtins := 0 }), List.toArray []⟩
noncomputable def o250_80 (P : Params) : Obj := ⟨(.type "tuple"), none, (.seq (List.toArray []) 0), List.toArray []⟩
noncomputable def o251_80 (P : Params) : Obj := ⟨.none, none, (.fields (List.toArray [])), List.toArray []⟩
noncomputable def o252_80 (P : Params) : Obj := ⟨(.type "tuple"), none, (.seq (List.toArray [(vS "code" 912), (vS "names" 913), (vS "codes" 914), (vS "name" 915), (vS "is_left" 916)]) 0), List.toArray []⟩
noncomputable def o253_80 (P : Params) : Obj := ⟨(.type "tuple"), none, (.seq (List.toArray []) 0), List.toArray []⟩
noncomputable def o254_80 (P : Params) : Obj := ⟨.none, none, (.func { fnB 75 with globals := 0, defaults := .none, kwdefaults := .none, doc := .none, pyModule := .none, annotations := none, code := .none, closureTuple := .none, builtins := 0 }), List.toArray []⟩
noncomputable def o255_80 (P : Params) : Obj := ⟨(.type "code"), none, (.fields (List.toArray [(vS "_law_is_told" 909), (vS "_law_is_told" 910), (vS "/claim/cut.py" 911), (.int 208 0), (.int 3 0), (.int 0 0), (.int 0 0), (.int 3 0), (.ref 250), (.bool true), (.int 181 0), (.ref 251), .none, (.ref 252), (.ref 253), (.ref 254), (.int 917 0), (.int 208 0), (vS "/claim/cut.py" 918)])), List.toArray []⟩
noncomputable def o256_80 (P : Params) : Obj := ⟨(.type "function"), none, (.func { fnB 75 with globals := 3, defaults := .none, kwdefaults := .none, doc := .none, pyModule := (vS "law_nm0118_01" 835), annotations := none, code := (.ref 255), closureTuple := .none, builtins := 0 }), List.toArray []⟩
noncomputable def o257_80 (P : Params) : Obj := ⟨(.type "tuple"), none, (.seq (List.toArray []) 0), List.toArray []⟩
noncomputable def o258_80 (P : Params) : Obj := ⟨.none, none, (.fields (List.toArray [])), List.toArray []⟩
noncomputable def o259_80 (P : Params) : Obj := ⟨(.type "tuple"), none, (.seq (List.toArray [(vS "number" 923), (vS "near" 924)]) 0), List.toArray []⟩
noncomputable def o260_80 (P : Params) : Obj := ⟨(.type "tuple"), none, (.seq (List.toArray []) 0), List.toArray []⟩
noncomputable def o261_80 (P : Params) : Obj := ⟨.none, none, (.func { fnB 76 with globals := 0, defaults := .none, kwdefaults := .none, doc := .none, pyModule := .none, annotations := none, code := .none, closureTuple := .none, builtins := 0 }), List.toArray []⟩
noncomputable def o262_80 (P : Params) : Obj := ⟨(.type "code"), none, (.fields (List.toArray [(vS "_law_plain" 920), (vS "_law_plain" 921), (vS "/claim/cut.py" 922), (.int 222 0), (.int 1 0), (.int 0 0), (.int 0 0), (.int 3 0), (.ref 257), (.bool true), (.int 181 0), (.ref 258), .none, (.ref 259), (.ref 260), (.ref 261), (.int 925 0), (.int 222 0), (vS "/claim/cut.py" 926)])), List.toArray []⟩
noncomputable def o263_80 (P : Params) : Obj := ⟨(.type "function"), none, (.func { fnB 76 with globals := 3, defaults := .none, kwdefaults := .none, doc := .none, pyModule := (vS "law_nm0118_01" 835), annotations := none, code := (.ref 262), closureTuple := .none, builtins := 0 }), List.toArray []⟩
noncomputable def o264_80 (P : Params) : Obj := ⟨(.type "tuple"), none, (.seq (List.toArray []) 0), List.toArray []⟩
noncomputable def o265_80 (P : Params) : Obj := ⟨.none, none, (.fields (List.toArray [])), List.toArray []⟩
noncomputable def o266_80 (P : Params) : Obj := ⟨(.type "tuple"), none, (.seq (List.toArray [(vS "told" 931), (vS "body" 932), (vS "inner" 933), (vS "x" 934), (vS "what" 935), (vS "rest" 936)]) 0), List.toArray []⟩
noncomputable def o267_80 (P : Params) : Obj := ⟨(.type "tuple"), none, (.seq (List.toArray []) 0), List.toArray []⟩
noncomputable def o268_80 (P : Params) : Obj := ⟨.none, none, (.func { fnB 77 with globals := 0, defaults := .none, kwdefaults := .none, doc := .none, pyModule := .none, annotations := none, code := .none, closureTuple := .none, builtins := 0 }), List.toArray []⟩
noncomputable def o269_80 (P : Params) : Obj := ⟨(.type "code"), none, (.fields (List.toArray [(vS "_law_body" 928), (vS "_law_body" 929), (vS "/claim/cut.py" 930), (.int 225 0), (.int 1 0), (.int 0 0), (.int 0 0), (.int 3 0), (.ref 264), (.bool true), (.int 181 0), (.ref 265), .none, (.ref 266), (.ref 267), (.ref 268), (.int 937 0), (.int 225 0), (vS "/claim/cut.py" 938)])), List.toArray []⟩
noncomputable def o270_80 (P : Params) : Obj := ⟨(.type "function"), none, (.func { fnB 77 with globals := 3, defaults := .none, kwdefaults := .none, doc := .none, pyModule := (vS "law_nm0118_01" 835), annotations := none, code := (.ref 269), closureTuple := .none, builtins := 0 }), List.toArray []⟩
noncomputable def o271_80 (P : Params) : Obj := ⟨(.type "tuple"), none, (.seq (List.toArray []) 0), List.toArray []⟩
noncomputable def o272_80 (P : Params) : Obj := ⟨.none, none, (.fields (List.toArray [])), List.toArray []⟩
noncomputable def o273_80 (P : Params) : Obj := ⟨(.type "tuple"), none, (.seq (List.toArray [(vS "body" 943), (vS "ends" 944), (vS "elses" 945), (vS "at" 946), (vS "place" 947), (vS "depth" 948), (vS "middle" 949), (vS "code" 950)]) 0), List.toArray []⟩
noncomputable def o274_80 (P : Params) : Obj := ⟨(.type "tuple"), none, (.seq (List.toArray []) 0), List.toArray []⟩
noncomputable def o275_80 (P : Params) : Obj := ⟨.none, none, (.func { fnB 78 with globals := 0, defaults := .none, kwdefaults := .none, doc := .none, pyModule := .none, annotations := none, code := .none, closureTuple := .none, builtins := 0 }), List.toArray []⟩
noncomputable def o276_80 (P : Params) : Obj := ⟨(.type "code"), none, (.fields (List.toArray [(vS "_law_due" 940), (vS "_law_due" 941), (vS "/claim/cut.py" 942), (.int 241 0), (.int 1 0), (.int 0 0), (.int 0 0), (.int 3 0), (.ref 271), (.bool true), (.int 181 0), (.ref 272), .none, (.ref 273), (.ref 274), (.ref 275), (.int 951 0), (.int 241 0), (vS "/claim/cut.py" 952)])), List.toArray []⟩
noncomputable def o277_80 (P : Params) : Obj := ⟨(.type "function"), none, (.func { fnB 78 with globals := 3, defaults := .none, kwdefaults := .none, doc := .none, pyModule := (vS "law_nm0118_01" 835), annotations := none, code := (.ref 276), closureTuple := .none, builtins := 0 }), List.toArray []⟩
noncomputable def o278_80 (P : Params) : Obj := ⟨(.type "tuple"), none, (.seq (List.toArray []) 0), List.toArray []⟩
noncomputable def o279_80 (P : Params) : Obj := ⟨.none, none, (.fields (List.toArray [])), List.toArray []⟩
noncomputable def o280_80 (P : Params) : Obj := ⟨.none, none, (.func { fnB 79 with globals := 0, defaults := .none, kwdefaults := .none, doc := .none, pyModule := .none, annotations := none, code := .none, closureTuple := .none, builtins := 0 }), List.toArray []⟩
noncomputable def o281_80 (P : Params) : Obj := ⟨(.type "code"), none, (.fields (List.toArray [(vS "law" 954), (vS "law" 955), (vS "/claim/cut.py" 956), (.int 260 0), (.int 1 0), (.int 0 0), (.int 0 0), (.int 3 0), (.ref 278), (.bool true), (.int 181 0), (.ref 279), .none, .none, .none, (.ref 280), (.int 957 0), (.int 260 0), (vS "/claim/cut.py" 958)])), List.toArray []⟩
noncomputable def o282_80 (P : Params) : Obj := ⟨(.type "function"), none, (.func { fnB 79 with globals := 3, defaults := .none, kwdefaults := .none, doc := .none, pyModule := (vS "law_nm0118_01" 835), annotations := none, code := (.ref 281), closureTuple := .none, builtins := 0 }), List.toArray []⟩
noncomputable def tr80 (P : Params) : BT := (.node (o0_A P) (.node (o1_A P) (.node (o3_80 P) (.node (o7_A P) (.node (o15_50 P) (.node (o31_50 P) (.node (o63_64 P) (.node (o127_64 P) (.node (o255_80 P) .nil .nil) .nil) (.node (o191_80 P) .nil .nil)) (.node (o95_64 P) (.node (o159_64 P) .nil .nil) (.node (o223_80 P) .nil .nil))) (.node (o47_51 P) (.node (o79_64 P) (.node (o143_64 P) (.node (o271_80 P) .nil .nil) .nil) (.node (o207_80 P) .nil .nil)) (.node (o111_64 P) (.node (o175_64 P) .nil .nil) (.node (o239_80 P) .nil .nil)))) (.node (o23_50 P) (.node (o39_50 P) (.node (o71_64 P) (.node (o135_64 P) (.node (o263_80 P) .nil .nil) .nil) (.node (o199_80 P) .nil .nil)) (.node (o103_64 P) (.node (o167_64 P) .nil .nil) (.node (o231_80 P) .nil .nil))) (.node (o55_64 P) (.node (o87_64 P) (.node (o151_64 P) (.node (o279_80 P) .nil .nil) .nil) (.node (o215_80 P) .nil .nil)) (.node (o119_64 P) (.node (o183_65 P) .nil .nil) (.node (o247_80 P) .nil .nil))))) (.node (o11_A P) (.node (o19_50 P) (.node (o35_50 P) (.node (o67_64 P) (.node (o131_64 P) (.node (o259_80 P) .nil .nil) .nil) (.node (o195_80 P) .nil .nil)) (.node (o99_64 P) (.node (o163_64 P) .nil .nil) (.node (o227_80 P) .nil .nil))) (.node (o51_64 P) (.node (o83_64 P) (.node (o147_64 P) (.node (o275_80 P) .nil .nil) .nil) (.node (o211_80 P) .nil .nil)) (.node (o115_64 P) (.node (o179_64 P) .nil .nil) (.node (o243_80 P) .nil .nil)))) (.node (o27_50 P) (.node (o43_50 P) (.node (o75_64 P) (.node (o139_64 P) (.node (o267_80 P) .nil .nil) .nil) (.node (o203_80 P) .nil .nil)) (.node (o107_64 P) (.node (o171_64 P) .nil .nil) (.node (o235_80 P) .nil .nil))) (.node (o59_64 P) (.node (o91_64 P) (.node (o155_64 P) .nil .nil) (.node (o219_80 P) .nil .nil)) (.node (o123_64 P) (.node (o187_80 P) .nil .nil) (.node (o251_80 P) .nil .nil)))))) (.node (o5_A P) (.node (o9_A P) (.node (o17_50 P) (.node (o33_50 P) (.node (o65_64 P) (.node (o129_64 P) (.node (o257_80 P) .nil .nil) .nil) (.node (o193_80 P) .nil .nil)) (.node (o97_64 P) (.node (o161_64 P) .nil .nil) (.node (o225_80 P) .nil .nil))) (.node (o49_64 P) (.node (o81_64 P) (.node (o145_64 P) (.node (o273_80 P) .nil .nil) .nil) (.node (o209_80 P) .nil .nil)) (.node (o113_64 P) (.node (o177_64 P) .nil .nil) (.node (o241_80 P) .nil .nil)))) (.node (o25_50 P) (.node (o41_50 P) (.node (o73_64 P) (.node (o137_64 P) (.node (o265_80 P) .nil .nil) .nil) (.node (o201_80 P) .nil .nil)) (.node (o105_64 P) (.node (o169_64 P) .nil .nil) (.node (o233_80 P) .nil .nil))) (.node (o57_64 P) (.node (o89_64 P) (.node (o153_64 P) (.node (o281_80 P) .nil .nil) .nil) (.node (o217_80 P) .nil .nil)) (.node (o121_64 P) (.node (o185_65 P) .nil .nil) (.node (o249_80 P) .nil .nil))))) (.node (o13_A P) (.node (o21_50 P) (.node (o37_50 P) (.node (o69_64 P) (.node (o133_64 P) (.node (o261_80 P) .nil .nil) .nil) (.node (o197_80 P) .nil .nil)) (.node (o101_64 P) (.node (o165_64 P) .nil .nil) (.node (o229_80 P) .nil .nil))) (.node (o53_64 P) (.node (o85_64 P) (.node (o149_64 P) (.node (o277_80 P) .nil .nil) .nil) (.node (o213_80 P) .nil .nil)) (.node (o117_64 P) (.node (o181_64 P) .nil .nil) (.node (o245_80 P) .nil .nil)))) (.node (o29_50 P) (.node (o45_51 P) (.node (o77_64 P) (.node (o141_64 P) (.node (o269_80 P) .nil .nil) .nil) (.node (o205_80 P) .nil .nil)) (.node (o109_64 P) (.node (o173_64 P) .nil .nil) (.node (o237_80 P) .nil .nil))) (.node (o61_64 P) (.node (o93_64 P) (.node (o157_64 P) .nil .nil) (.node (o221_80 P) .nil .nil)) (.node (o125_64 P) (.node (o189_80 P) .nil .nil) (.node (o253_80 P) .nil .nil))))))) (.node (o2_A P) (.node (o4_A P) (.node (o8_A P) (.node (o16_50 P) (.node (o32_50 P) (.node (o64_64 P) (.node (o128_64 P) (.node (o256_80 P) .nil .nil) .nil) (.node (o192_80 P) .nil .nil)) (.node (o96_64 P) (.node (o160_64 P) .nil .nil) (.node (o224_80 P) .nil .nil))) (.node (o48_64 P) (.node (o80_64 P) (.node (o144_64 P) (.node (o272_80 P) .nil .nil) .nil) (.node (o208_80 P) .nil .nil)) (.node (o112_64 P) (.node (o176_64 P) .nil .nil) (.node (o240_80 P) .nil .nil)))) (.node (o24_50 P) (.node (o40_50 P) (.node (o72_64 P) (.node (o136_64 P) (.node (o264_80 P) .nil .nil) .nil) (.node (o200_80 P) .nil .nil)) (.node (o104_64 P) (.node (o168_64 P) .nil .nil) (.node (o232_80 P) .nil .nil))) (.node (o56_64 P) (.node (o88_64 P) (.node (o152_64 P) (.node (o280_80 P) .nil .nil) .nil) (.node (o216_80 P) .nil .nil)) (.node (o120_64 P) (.node (o184_65 P) .nil .nil) (.node (o248_80 P) .nil .nil))))) (.node (o12_80 P) (.node (o20_50 P) (.node (o36_50 P) (.node (o68_64 P) (.node (o132_64 P) (.node (o260_80 P) .nil .nil) .nil) (.node (o196_80 P) .nil .nil)) (.node (o100_64 P) (.node (o164_64 P) .nil .nil) (.node (o228_80 P) .nil .nil))) (.node (o52_64 P) (.node (o84_64 P) (.node (o148_64 P) (.node (o276_80 P) .nil .nil) .nil) (.node (o212_80 P) .nil .nil)) (.node (o116_64 P) (.node (o180_64 P) .nil .nil) (.node (o244_80 P) .nil .nil)))) (.node (o28_50 P) (.node (o44_50 P) (.node (o76_64 P) (.node (o140_64 P) (.node (o268_80 P) .nil .nil) .nil) (.node (o204_80 P) .nil .nil)) (.node (o108_64 P) (.node (o172_64 P) .nil .nil) (.node (o236_80 P) .nil .nil))) (.node (o60_64 P) (.node (o92_64 P) (.node (o156_64 P) .nil .nil) (.node (o220_80 P) .nil .nil)) (.node (o124_64 P) (.node (o188_80 P) .nil .nil) (.node (o252_80 P) .nil .nil)))))) (.node (o6_A P) (.node (o10_A P) (.node (o18_50 P) (.node (o34_50 P) (.node (o66_64 P) (.node (o130_64 P) (.node (o258_80 P) .nil .nil) .nil) (.node (o194_80 P) .nil .nil)) (.node (o98_64 P) (.node (o162_64 P) .nil .nil) (.node (o226_80 P) .nil .nil))) (.node (o50_64 P) (.node (o82_64 P) (.node (o146_64 P) (.node (o274_80 P) .nil .nil) .nil) (.node (o210_80 P) .nil .nil)) (.node (o114_64 P) (.node (o178_64 P) .nil .nil) (.node (o242_80 P) .nil .nil)))) (.node (o26_50 P) (.node (o42_50 P) (.node (o74_64 P) (.node (o138_64 P) (.node (o266_80 P) .nil .nil) .nil) (.node (o202_80 P) .nil .nil)) (.node (o106_64 P) (.node (o170_64 P) .nil .nil) (.node (o234_80 P) .nil .nil))) (.node (o58_64 P) (.node (o90_64 P) (.node (o154_64 P) (.node (o282_80 P) .nil .nil) .nil) (.node (o218_80 P) .nil .nil)) (.node (o122_64 P) (.node (o186_65 P) .nil .nil) (.node (o250_80 P) .nil .nil))))) (.node (o14_A P) (.node (o22_50 P) (.node (o38_50 P) (.node (o70_64 P) (.node (o134_64 P) (.node (o262_80 P) .nil .nil) .nil) (.node (o198_80 P) .nil .nil)) (.node (o102_64 P) (.node (o166_64 P) .nil .nil) (.node (o230_80 P) .nil .nil))) (.node (o54_64 P) (.node (o86_64 P) (.node (o150_64 P) (.node (o278_80 P) .nil .nil) .nil) (.node (o214_80 P) .nil .nil)) (.node (o118_64 P) (.node (o182_65 P) .nil .nil) (.node (o246_80 P) .nil .nil)))) (.node (o30_50 P) (.node (o46_51 P) (.node (o78_64 P) (.node (o142_64 P) (.node (o270_80 P) .nil .nil) .nil) (.node (o206_80 P) .nil .nil)) (.node (o110_64 P) (.node (o174_64 P) .nil .nil) (.node (o238_80 P) .nil .nil))) (.node (o62_64 P) (.node (o94_64 P) (.node (o158_64 P) .nil .nil) (.node (o222_80 P) .nil .nil)) (.node (o126_64 P) (.node (o190_80 P) .nil .nil) (.node (o254_80 P) .nil .nil))))))))
noncomputable abbrev st80 (P : Params) (os : OsState) : SharedT := ⟨tr80 P, 283, {}, #[], {}, 960, os⟩
end Mine

namespace Mine
/-- the library's segRunT over any step -/
noncomputable def segG (ok : Nat → Option Value → Thread → Bool) (stp : Program → World → SharedT → Thread → Option (SharedT × Thread)) (p : Program) (w : World) (n₀ : Nat) (ann : Option Value) (b : Nat) : Nat → SharedT → Thread → Option (Flow × SharedT × Code × Pos)
  | 0, _, _ => none
  | n + 1, s, t => match endAt b t with
    | some f => some (f, s, t.code, t.pos)
    | none => match ok n₀ ann t with
      | false => none
      | true => match stp p w s t with
        | some (s', t') => segG ok stp p w n₀ ann b n s' t'
        | none => none
theorem segG_ok {tb : String → Option Builtin} {p : Program} {w : World} {n₀ : Nat} {ann : Option Value} {b : Nat} : ∀ (n : Nat) (s : SharedT) (t : Thread), segG stepOk (stepT (denote tb)) p w n₀ ann b n s t = segRunT tb p w n₀ ann b n s t
  | 0, _, _ => rfl
  | n + 1, s, t => by
    unfold segG segRunT
    cases endAt b t with
    | some f => rfl
    | none =>
      cases stepOk n₀ ann t with
      | false => rfl
      | true =>
        cases stepT (denote tb) p w s t with
        | none => rfl
        | some x =>
          obtain ⟨s', t'⟩ := x
          exact segG_ok n s' t'
/-- topGo over the tree -/
noncomputable def goG (ok : Nat → Option Value → Thread → Bool) (stp : Program → World → SharedT → Thread → Option (SharedT × Thread)) (p : Program) (w : World) (n₀ : Nat) (ann : Option Value) : Nat → SharedT → Thread → Option (SharedT × Thread)
  | 0, s, t => some (s, t)
  | n + 1, s, t => match through t with
    | true => none
    | false => match ok n₀ ann t with
      | false => none
      | true => match stp p w s t with
        | some (s', t') => goG ok stp p w n₀ ann n s' t'
        | none => none
theorem goG_ok {tb : String → Option Builtin} {p : Program} {w : World} {n₀ : Nat} {ann : Option Value} : ∀ (n : Nat) (s s' : SharedT) (t t' : Thread), goG stepOk (stepT (denote tb)) p w n₀ ann n s t = some (s', t') → topGo tb p w n₀ ann n s.abs t = some (s'.abs, t')
  | 0, s, s', t, t', e => by cases e; rfl
  | n + 1, s, s', t, t', e => by
    unfold goG at e
    unfold topGo
    split at e
    · cases e
    · rename_i h
      rw [h]
      split at e
      · cases e
      · rename_i h2
        rw [h2]
        split at e
        · rename_i s1 t1 h3
          rw [stepT_spec h3]
          exact goG_ok n s1 s' t1 t' e
        · cases e
theorem segG_eq : segG stepOk (stepT (denote treeTable)) = segG PySem.W.Fast.tw6613529449190102663 (PySem.W.Fast.tw10156331382660048174 (PySem.W.Fast.tw11892475500146522536 PySem.W.Fast.tw14364793385576792824)) := by
  rw [PySem.W.Fast.te6613529449190102663, PySem.W.Fast.te10156331382660048174, PySem.W.Fast.te11892475500146522536, PySem.W.Fast.te14364793385576792824]
noncomputable abbrev rowW : String := "special-get-raises"
noncomputable def envM : Env := { scope := pw.main.scope, locals := mainNs, globals := mainNs, cells := [], code := .ref 13, frame := some 14 }
noncomputable abbrev bodyM : List Stmt := behindTheImports pw
noncomputable abbrev cM : Code := .body bodyM envM
noncomputable abbrev BM : List Frame := [topFrame (P 0 0 0 0)]
noncomputable abbrev segM (w : World) (n : Nat) (s : SharedT) (t : Thread) : Option (Flow × SharedT × Code × Pos) := segG PySem.W.Fast.tw6613529449190102663 (PySem.W.Fast.tw10156331382660048174 (PySem.W.Fast.tw11892475500146522536 PySem.W.Fast.tw14364793385576792824)) pw w 11 (some (.ref 6)) 1 n s t
theorem seg_of {w : World} {n : Nat} {s s' : SharedT} {t : Thread} {f : Flow} {c : Code} {q : Pos} (h : segM w n s t = some (f, s', c, q)) : segRun treeTable pw w 11 (some (.ref 6)) 1 n s.abs t = some (f, s'.abs, c, q) := by
  unfold segM at h
  rw [← segG_eq, segG_ok] at h
  exact segRun_of h
noncomputable abbrev sts50 : List Stmt := (bodyM.drop 0).take 50
theorem pc50_false (w : World) (os : OsState) : segM (w.withFollow rowW false) 1100 (stA (w.withFollow rowW false).params os) (piecesOf sts50 envM cM (P 0 0 0 0) BM) = some (.next, st50 (w.withFollow rowW false).params os, cM, (P 50 0 50 11)) := by kernel_rfl
theorem pc50_true (w : World) (os : OsState) : segM (w.withFollow rowW true) 1100 (stA (w.withFollow rowW true).params os) (piecesOf sts50 envM cM (P 0 0 0 0) BM) = some (.next, st50 (w.withFollow rowW true).params os, cM, (P 50 0 50 11)) := by kernel_rfl
theorem pc50 (w : World) (os : OsState) : segM w 1100 (stA w.params os) (piecesOf sts50 envM cM (P 0 0 0 0) BM) = some (.next, st50 w.params os, cM, (P 50 0 50 11)) :=
  byRow2 rowW (P := fun w => segM w 1100 (stA w.params os) (piecesOf sts50 envM cM (P 0 0 0 0) BM) = some (.next, st50 w.params os, cM, (P 50 0 50 11))) (fun w => pc50_false w os) (fun w => pc50_true w os) w
noncomputable abbrev sts51 : List Stmt := (bodyM.drop 50).take 1
theorem pc51_false (w : World) (os : OsState) : segM (w.withFollow rowW false) 900 (st50 (w.withFollow rowW false).params os) (piecesOf sts51 envM cM (P 50 0 50 11) BM) = some (.next, st51 (w.withFollow rowW false).params os, cM, (P 51 0 51 5)) := by kernel_rfl
theorem pc51_true (w : World) (os : OsState) : segM (w.withFollow rowW true) 900 (st50 (w.withFollow rowW true).params os) (piecesOf sts51 envM cM (P 50 0 50 11) BM) = some (.next, st51 (w.withFollow rowW true).params os, cM, (P 51 0 51 5)) := by kernel_rfl
theorem pc51 (w : World) (os : OsState) : segM w 900 (st50 w.params os) (piecesOf sts51 envM cM (P 50 0 50 11) BM) = some (.next, st51 w.params os, cM, (P 51 0 51 5)) :=
  byRow2 rowW (P := fun w => segM w 900 (st50 w.params os) (piecesOf sts51 envM cM (P 50 0 50 11) BM) = some (.next, st51 w.params os, cM, (P 51 0 51 5))) (fun w => pc51_false w os) (fun w => pc51_true w os) w
noncomputable abbrev sts64 : List Stmt := (bodyM.drop 51).take 13
theorem pc64_false (w : World) (os : OsState) : segM (w.withFollow rowW false) 1000 (st51 (w.withFollow rowW false).params os) (piecesOf sts64 envM cM (P 51 0 51 5) BM) = some (.next, st64 (w.withFollow rowW false).params os, cM, (P 99 0 99 4)) := by kernel_rfl
theorem pc64_true (w : World) (os : OsState) : segM (w.withFollow rowW true) 1000 (st51 (w.withFollow rowW true).params os) (piecesOf sts64 envM cM (P 51 0 51 5) BM) = some (.next, st64 (w.withFollow rowW true).params os, cM, (P 99 0 99 4)) := by kernel_rfl
theorem pc64 (w : World) (os : OsState) : segM w 1000 (st51 w.params os) (piecesOf sts64 envM cM (P 51 0 51 5) BM) = some (.next, st64 w.params os, cM, (P 99 0 99 4)) :=
  byRow2 rowW (P := fun w => segM w 1000 (st51 w.params os) (piecesOf sts64 envM cM (P 51 0 51 5) BM) = some (.next, st64 w.params os, cM, (P 99 0 99 4))) (fun w => pc64_false w os) (fun w => pc64_true w os) w
noncomputable abbrev sts65 : List Stmt := (bodyM.drop 64).take 1
theorem pc65_false (w : World) (os : OsState) : segM (w.withFollow rowW false) 1500 (st64 (w.withFollow rowW false).params os) (piecesOf sts65 envM cM (P 99 0 99 4) BM) = some (.next, st65 (w.withFollow rowW false).params os, cM, (P 100 0 100 5)) := by kernel_rfl
theorem pc65_true (w : World) (os : OsState) : segM (w.withFollow rowW true) 1500 (st64 (w.withFollow rowW true).params os) (piecesOf sts65 envM cM (P 99 0 99 4) BM) = some (.next, st65 (w.withFollow rowW true).params os, cM, (P 100 0 100 5)) := by kernel_rfl
theorem pc65 (w : World) (os : OsState) : segM w 1500 (st64 w.params os) (piecesOf sts65 envM cM (P 99 0 99 4) BM) = some (.next, st65 w.params os, cM, (P 100 0 100 5)) :=
  byRow2 rowW (P := fun w => segM w 1500 (st64 w.params os) (piecesOf sts65 envM cM (P 99 0 99 4) BM) = some (.next, st65 w.params os, cM, (P 100 0 100 5))) (fun w => pc65_false w os) (fun w => pc65_true w os) w
noncomputable abbrev sts80 : List Stmt := (bodyM.drop 65).take 15
theorem pc80_false (w : World) (os : OsState) : segM (w.withFollow rowW false) 700 (st65 (w.withFollow rowW false).params os) (piecesOf sts80 envM cM (P 100 0 100 5) BM) = some (.next, st80 (w.withFollow rowW false).params os, cM, (P 260 0 278 15)) := by kernel_rfl
theorem pc80_true (w : World) (os : OsState) : segM (w.withFollow rowW true) 700 (st65 (w.withFollow rowW true).params os) (piecesOf sts80 envM cM (P 100 0 100 5) BM) = some (.next, st80 (w.withFollow rowW true).params os, cM, (P 260 0 278 15)) := by kernel_rfl
theorem pc80 (w : World) (os : OsState) : segM w 700 (st65 w.params os) (piecesOf sts80 envM cM (P 100 0 100 5) BM) = some (.next, st80 w.params os, cM, (P 260 0 278 15)) :=
  byRow2 rowW (P := fun w => segM w 700 (st65 w.params os) (piecesOf sts80 envM cM (P 100 0 100 5) BM) = some (.next, st80 w.params os, cM, (P 260 0 278 15))) (fun w => pc80_false w os) (fun w => pc80_true w os) w
end Mine

namespace Mine
theorem go_eq : goG stepOk (stepT (denote treeTable)) = goG PySem.W.Fast.tw6613529449190102663 (PySem.W.Fast.tw10156331382660048174 (PySem.W.Fast.tw11892475500146522536 PySem.W.Fast.tw14364793385576792824)) := by
  rw [PySem.W.Fast.te6613529449190102663, PySem.W.Fast.te10156331382660048174, PySem.W.Fast.te11892475500146522536, PySem.W.Fast.te14364793385576792824]
theorem pc_pre (w : World) (os : OsState) : goG stepOk (stepT (denote treeTable)) pw w 11 (some (.ref 6)) 12 (bootT w.params os) (topStub pw) = some (stA w.params os, ⟨denote treeTable cM, cM, (P 0 0 0 0), BM⟩) := by kernel_rfl
theorem pc_block (w : World) (os : OsState) : segM w 1 (stA w.params os) (blockOf bodyM envM cM (P 0 0 0 0) BM) = some (.next, stA w.params os, cM, (P 0 0 0 0)) := by kernel_rfl
theorem pc_fin (w : World) (os : OsState) : topG stepOk (stepT (denote treeTable)) pw w 11 (some (.ref 6)) 2 (st80 w.params os) ⟨doneF .next, cM, (P 260 0 278 15), BM⟩ = some (st80 w.params os) := by kernel_rfl
theorem body_cut : bodyM = sts50 ++ (sts51 ++ (sts64 ++ (sts65 ++ (sts80 ++ [])))) := by
  have h : ∀ (l : List Stmt) (a b : Nat), l.drop a = (l.drop a).take b ++ l.drop (a + b) := fun l a b => by
    conv => lhs; rw [← List.take_append_drop b (l.drop a), List.drop_drop]
  have e : bodyM.drop 80 = [] := by kernel_rfl
  have h0 : bodyM = bodyM.drop 0 := rfl
  rw [h0, h bodyM 0 50, h bodyM 50 1, h bodyM 51 13, h bodyM 64 1, h bodyM 65 15, e]
noncomputable abbrev HF (P : Params) : Heap := absHeap (tr80 P) 283 {}
theorem run_all (w : World) (os : OsState) : topRun treeTable pw w 11 (some (.ref 6)) (12 + (1 + (1100 + (900 + (1000 + (1500 + (700 + 2))))))) ⟨boot_heap w.params, Array.mk [], boot_drawn, boot_toks, os⟩ (topStub pw) = some ⟨HF w.params, Array.mk [], {}, 960, os⟩ := by
  have h0 := goG_ok _ _ _ _ _ (pc_pre w os)
  rw [boot_abs] at h0
  refine go_top h0 (piece_block (b := bodyM) (env := envM) (q := P 0 0 0 0) (seg_of (pc_block w os)) ?_)
  have e : restOf bodyM envM cM (P 0 0 0 0) BM = restOf (sts50 ++ (sts51 ++ (sts64 ++ (sts65 ++ (sts80 ++ []))))) envM cM (P 0 0 0 0) BM := congrArg (fun l => restOf l envM cM (P 0 0 0 0) BM) body_cut
  rw [e]
  refine piece_app (q := P 0 0 0 0) (seg_of (pc50 w os)) ?_
  refine piece_app (q := P 0 0 0 0) (seg_of (pc51 w os)) ?_
  refine piece_app (q := P 0 0 0 0) (seg_of (pc64 w os)) ?_
  refine piece_app (q := P 0 0 0 0) (seg_of (pc65 w os)) ?_
  refine piece_app (q := P 0 0 0 0) (seg_of (pc80 w os)) ?_
  exact piece_nil (q := P 0 0 0 0) (topG_ok _ _ _ _ (pc_fin w os))
noncomputable abbrev sF (P : Params) (os : OsState) : Shared := ⟨HF P, Array.mk [], {}, 960, os⟩
theorem look_size (w : World) : ((boot_heap w.params).isNs mainGlobals && (Array.mk [] : Array GenState).size == 0, (boot_heap w.params).objs.size, (boot_heap w.params).nsMap mainGlobals "__annotations__") = (true, 11, some (.ref 6)) := by kernel_rfl
theorem look_st (w : World) : staticsOk (importedModules pw.main.body) (boot_heap w.params) (HF w.params) = true := by kernel_rfl
theorem look_nb (w : World) : namesBound pw (HF w.params) = true := by kernel_rfl
theorem look_gd (w : World) (os : OsState) : gensDone (sF w.params os) = true := by kernel_rfl
theorem look_lk (w : World) : laidKept (boot_heap w.params) (HF w.params) = true := by kernel_rfl
theorem look_seen (w : World) (os : OsState) : openSeen qv lo8 (importedModules pw.main.body) Xt true (sF w.params os) = openGood qv lo8 := by kernel_rfl
theorem left_all : LeftO pw qv lo8 Xt Yf (fun _ => true) 8318 :=
  LeftO.of_pieces (H₀ := boot_heap) (H₁ := HF) (gs₀ := Array.mk []) (gs₁ := Array.mk []) (d₀ := boot_drawn) (d₁ := {}) (k₀ := boot_toks) (k₁ := 960) (m₀ := 11) (ann := some (.ref 6)) (M := 12 + (1 + (1100 + (900 + (1000 + (1500 + (700 + 2))))))) (boot_open (p := pw) (N := 8318) pw_open (by rfl) pw_fence) look_size run_all (by decide) fun w => funext fun os => by
    show ((staticsOk (importedModules pw.main.body) (boot_heap w.params) (HF w.params) && namesBound pw (HF w.params) && gensDone (sF w.params os) && laidKept (boot_heap w.params) (HF w.params)), openSeen qv lo8 (importedModules pw.main.body) Xt true (sF w.params os), Yf (sF w.params os)) = (true, openGood qv lo8, true)
    rw [look_st, look_nb, look_gd, look_lk, look_seen]
    rfl
end Mine

namespace Mine
noncomputable abbrev LW : OpenLaw := PySem.Challenge.rw_nm0118_01
noncomputable abbrev LP : Program := LW.row.prog
theorem noRoad_app (lk : Look) : ∀ (a b : List Stmt), noRoadLSs lk (a ++ b) = (noRoadLSs lk a && noRoadLSs lk b)
  | [], b => by simp [noRoadLSs]
  | s :: a, b => by simp only [List.cons_append, noRoadLSs, noRoad_app lk a b, Bool.and_assoc]
theorem noRoad_cut (lk : Look) {l : List Stmt} (n : Nat) (h1 : noRoadLSs lk (l.take n) = true) (h2 : noRoadLSs lk (l.drop n) = true) : noRoadLSs lk l = true := by
  rw [← List.take_append_drop n l, noRoad_app, h1, h2]; rfl
noncomputable abbrev lk0 : Look := { strict := false, foot := none, bare := [] }
noncomputable abbrev lkF : Look := { strict := true, foot := some LW.bound', writes := LW.writes, may := LW.may }
theorem said_imp : (importedModules LP.main.body).all cThrough.contains = true := by kernel_rfl
theorem said_out1 : readsOut LP LP.main.body "vars" = false := by kernel_rfl
theorem said_out2 : readsOut LP LP.main.body "dir" = false := by kernel_rfl
theorem said_out3 : readsOut LP LP.main.body "locals" = false := by kernel_rfl
theorem said_b1 : noRoadLSs lk0 (LP.main.body.take 35) = true := by kernel_rfl
theorem said_b2 : noRoadLSs lk0 ((LP.main.body.drop 35).take 35) = true := by kernel_rfl
theorem said_b3 : noRoadLSs lk0 ((LP.main.body.drop 35).drop 35) = true := by kernel_rfl
theorem said_f1 : noRoadLSs lkF (LW.footing.take 4) = true := by kernel_rfl
theorem said_f2 : noRoadLSs lkF (LW.footing.drop 4) = true := by kernel_rfl
theorem said_foot : noRoadLSs lkF LW.footing = true := noRoad_cut _ 4 said_f1 said_f2
theorem said_bare : (["vars", "dir", "locals"] : List Str).filter (readsOut LP LP.main.body) = [] := by
  rw [List.filter_cons_of_neg (by rw [said_out1]; decide), List.filter_cons_of_neg (by rw [said_out2]; decide), List.filter_cons_of_neg (by rw [said_out3]; decide)]
  rfl
theorem said_road : noRoadLSs { strict := !(importedModules LP.main.body).all cThrough.contains, foot := none, bare := (["vars", "dir", "locals"] : List Str).filter (readsOut LP LP.main.body) } LP.main.body = true := by
  rw [said_imp, said_bare]
  exact noRoad_cut _ 35 said_b1 (noRoad_cut _ 35 said_b2 said_b3)
theorem said_a3 : namesResolve LP = true := by kernel_rfl
theorem said_a4 : LP.boundNames.all (fun n => !worldNames.contains n) = true := by kernel_rfl
theorem said_a6 : namesMeet LP LP.main.body (fun _ n => attrL n) = true := by kernel_rfl
theorem said_open : looksOpen LP = true := by
  unfold looksOpen
  exact look_both (look_both (look_both (look_both (look_both (by kernel_rfl) (by kernel_rfl)) said_a3) said_a4) said_road) said_a6
theorem said_part : LW.row.partSaid = true := by
  unfold OpenRow.partSaid
  repeat' with_reducible refine look_both ?_ ?_
  · exact said_open
  all_goals kernel_rfl
theorem said_row : LW.row.wellSaid = true := by
  unfold OpenRow.wellSaid
  exact look_both (look_both said_part (by kernel_rfl)) (by kernel_rfl)
theorem said_p0 : (decide (LW.foot ≤ (behindTheImports LW.prog).length)) = true := by kernel_rfl
theorem said_p1 : (LW.footing.all footLine) = true := by kernel_rfl
theorem said_p2 : (noClassBlock LW.prog LW.footing) = true := by kernel_rfl
theorem said_p3 : (LW.most.all (fun n => decide (63 ≤ n))) = true := by kernel_rfl
theorem said_p4 : (LW.bound.all (fun n => decide (2 ^ 63 ≤ n))) = true := by kernel_rfl
theorem said_p6 : (defStands LW.about LW.above) = true := by kernel_rfl
theorem said_p7 : (LW.namesIt) = true := by kernel_rfl
theorem said_p8 : ((["type", "isinstance", "issubclass", "getattr", "hasattr"] : List Str).all (fun n => LW.about != [n])) = true := by kernel_rfl
theorem said_p9 : (LW.bound'.all (fun n => !builtinNamed n || LW.about == [n] || !LW.reads n)) = true := by kernel_rfl
theorem said_p10 : ((!LW.writes || (LW.prog.main.body.flatMap importedNames).all fun n => !LW.reads n)) = true := by kernel_rfl
theorem said_p11 : ((LW.prog.main.body.flatMap importedNames).all (fun n => !LW.reads n || (drawsOf n LW.prog.main.body).all fun mn => mn.2 != ("attrgetter" : Str) && mn.2 != ("methodcaller" : Str))) = true := by kernel_rfl
theorem said_p12 : (namesMeet LW.prog LW.footing (fun sc n => (!(["type", "isinstance", "issubclass", "getattr", "hasattr"] : List Str).contains n || sc.names.lookup n == some .globalImplicit) &&
    (LW.may != some n || sc.kind == .module || sc.names.lookup n == some .globalImplicit))) = true := by kernel_rfl
theorem said_p13 : (LW.own.contains LW.name) = true := by kernel_rfl
theorem said_p14 : (LW.own.eraseDups.length == LW.own.length) = true := by kernel_rfl
theorem said_p15 : (LW.own.all (fun n => !builtinNamed n)) = true := by kernel_rfl
theorem said_p16 : (namesMeet LW.prog LW.above (fun _ n => !LW.own.contains n)) = true := by kernel_rfl
theorem said_p17 : (namesMeet LW.prog LW.footing fun sc n => sc.kind == .module || sc.names.lookup n != some .globalExplicit) = true := by kernel_rfl
theorem law_said : PySem.Challenge.rw_nm0118_01.wellSaid = true := by
  show OpenLaw.wellSaid LW = true
  unfold OpenLaw.wellSaid
  exact look_both (look_both (look_both (look_both (look_both (look_both (look_both (look_both (look_both (look_both (look_both (look_both (look_both (look_both (look_both (look_both (look_both (look_both said_row said_p0) said_p1) said_p2) said_p3) said_p4) said_foot) said_p6) said_p7) said_p8) said_p9) said_p10) said_p11) said_p12) said_p13) said_p14) said_p15) said_p16) said_p17
end Mine

theorem PySem.Challenge.cw_nm0118_01_holds : PySem.Challenge.rw_nm0118_01.Holds :=
  Mine.holds_main Mine.left_all Mine.plain_ok Mine.law_said
