import PyProof.Rows.All
import Wide.All
import OpenK.AllK
import Wide.FinOn
import PySem.Challenge.RW_pf0211_01
set_option Elab.async false
set_option bootstrap.genMatcherCode false
set_option linter.unusedSimpArgs false
set_option linter.unusedVariables false
noncomputable section
namespace Mine
inductive Id where
  | root | cellsD | varsD | logL | planD | tablesL
  | buf (k : Nat) | cell (n : Int) | slots (n : Int) | nslots (n : Int) | loc (k : Nat)
deriving DecidableEq
inductive V where
  | none | bool (b : Bool) | int (i : Int) | str (s : String) | tup (vs : List V) | obj (i : Id)
deriving Inhabited
inductive Cls where | counted | cell
deriving DecidableEq
inductive O where
  | list (xs : List V)
  | dict (ep : Nat) (es : List (Int × V))
  | inst (c : Cls) (fs : List (String × V))
noncomputable abbrev Hp := Id → Option O
noncomputable def Hp.set (H : Hp) (i : Id) (o : O) : Hp := fun j => if j = i then some o else H j
theorem Hp.set_self (H : Hp) (i : Id) (o : O) : (H.set i o) i = some o := by simp [Hp.set]
theorem Hp.set_ne (H : Hp) {i j : Id} (o : O) (h : j ≠ i) : (H.set i o) j = H j := by simp [Hp.set, h]
noncomputable abbrev Env := String → Option V
noncomputable def Env.upd (ρ : Env) (x : String) (v : V) : Env := fun y => if y = x then some v else ρ y
noncomputable def LIM : Nat := 100000
inductive D where
  | int (i : Int) | str (s : String) | tup (ds : List D) | list (ds : List D)
mutual
noncomputable def D.beq : D → D → Bool
  | .int a, .int b => a == b
  | .str a, .str b => a == b
  | .tup a, .tup b => D.beqs a b
  | .list a, .list b => D.beqs a b
  | _, _ => false
noncomputable def D.beqs : List D → List D → Bool
  | [], [] => true
  | a :: r, b :: t => D.beq a b && D.beqs r t
  | _, _ => false
end
mutual
theorem D.beq_self : ∀ d : D, D.beq d d = true
  | .int i => beq_self_eq_true i
  | .str s => beq_self_eq_true s
  | .tup ds => D.beqs_self ds
  | .list ds => D.beqs_self ds
theorem D.beqs_self : ∀ ds : List D, D.beqs ds ds = true
  | [] => rfl
  | d :: r => Bool.and_eq_true_iff.mpr ⟨D.beq_self d, D.beqs_self r⟩
end
noncomputable def optAll {α : Type} : List (Option α) → Option (List α)
  | [] => some []
  | x :: r => x.bind fun a => (optAll r).map (a :: ·)
noncomputable def listP {α : Type} (o : Option O) (f : List V → Option α) : Option α := match o with
  | some (.list xs) => f xs
  | _ => none
noncomputable def dat : Nat → Hp → V → Option D
  | _, _, .int i => some (.int i)
  | _, _, .str s => some (.str s)
  | n + 1, H, .tup vs => (optAll (vs.map (dat n H))).map .tup
  | n + 1, H, .obj i => listP (H i) fun xs => (optAll (xs.map (dat n H))).map .list
  | _, _, _ => none
inductive Cmp where | eq | ne | lt | gt | isNone | isNotNone | in_ | notIn
deriving DecidableEq
inductive BOp where | add | sub | mod | fdiv
deriving DecidableEq
inductive SrcK where | plain | rev | values | enum | range
deriving DecidableEq
inductive Blt where | len | list | sorted | lenSet | listValues | listItems | isEmpty
inductive Mth where | append | extend | pop | remove | get
noncomputable def Mth.s : Mth → String
  | .append => "append" | .extend => "extend" | .pop => "pop" | .remove => "remove" | .get => "get"
inductive LE where
  | var (x : String)
  | none | bool (b : Bool) | int (i : Int) | str (s : String)
  | attr (e : LE) (x : String)
  | idx (e i : LE)
  | sliceTo (e n : LE) | sliceFrom (e n : LE)
  | tup (es : List LE) | list (es : List LE) | dict0
  | call (f : String) (es : List LE)
  | meth (e : LE) (m : Mth) (es : List LE)
  | blt (b : Blt) (e : LE)
  | cmp (op : Cmp) (a b : LE)
  | band (es : List LE) | bor (es : List LE) | not (e : LE) | ite (c a b : LE)
  | bin (op : BOp) (a b : LE) | neg (e : LE)
  | comp (elt : LE) (x : String) (k : SrcK) (src : LE) (conds : List LE)
inductive LS where
  | assign (x : String) (e : LE)
  | assignTup (xs : List String) (e : LE)
  | assignAttr (o : LE) (a : String) (e : LE)
  | assignAttrs (x : String) (as : List String) (e : LE)
  | assignIdx (o i e : LE)
  | augAttr (o : LE) (a : String) (op : BOp) (e : LE)
  | augIdx (o i : LE) (op : BOp) (e : LE)
  | expr (e : LE)
  | ret (e : LE)
  | ifs (c : LE) (t f : List LS)
  | while (c : LE) (b : List LS)
  | for (xs : List String) (k : SrcK) (src : LE) (b : List LS)
  | delIdx (o i : LE)
  | pass
  | fail
inductive Fl where | next | ret (v : V)
noncomputable def instF (o : Option O) (x : String) : Option V := match o with
  | some (.inst _ fs) => fs.lookup x
  | _ => none
noncomputable def attrOf (H : Hp) (v : V) (x : String) : Option V := match v with
  | .obj i => instF (H i) x
  | _ => none
noncomputable def putF (fs : List (String × V)) (x : String) (v : V) : List (String × V) :=
  match fs with
  | [] => [(x, v)]
  | p :: r => if p.1 = x then (x, v) :: r else p :: putF r x v
noncomputable def instP (H : Hp) (i : Id) (x : String) (v : V) (o : Option O) : Option Hp := match o with
  | some (.inst c fs) => if (putF fs x v).length ≤ 100 then some (H.set i (.inst c (putF fs x v))) else none
  | _ => none
noncomputable def putAttr (H : Hp) (u : V) (x : String) (v : V) : Option Hp := match u with
  | .obj i => instP H i x v (H i)
  | _ => none
noncomputable def hasK (es : List (Int × V)) (k : Int) : Bool := es.any fun p => p.1 == k
noncomputable def getK (es : List (Int × V)) (k : Int) : Option V := (es.find? fun p => p.1 == k).map (·.2)
noncomputable def putK (es : List (Int × V)) (k : Int) (v : V) : List (Int × V) :=
  if hasK es k then es.map (fun p => if p.1 = k then (p.1, v) else p) else es ++ [(k, v)]
noncomputable def delK (es : List (Int × V)) (k : Int) : List (Int × V) := es.filter fun p => decide (p.1 ≠ k)
noncomputable def atI (xs : List V) (k : Int) : Option V := if 0 ≤ k ∧ k < 100000 then xs[k.toNat]? else none
noncomputable def objI (o : Option O) (k : Int) : Option V := match o with
  | some (.list xs) => atI xs k
  | some (.dict _ es) => getK es k
  | _ => none
noncomputable def numI (Z : V) (f : Int → Option α) : Option α := match Z with
  | .int k => f k
  | _ => none
noncomputable def idxOf (H : Hp) (Z k : V) : Option V := numI k fun k => match Z with
  | .tup vs => atI vs k
  | .obj i => objI (H i) k
  | _ => none
noncomputable def dictP (o : Option O) (f : Nat → List (Int × V) → Option α) : Option α := match o with
  | some (.dict ep es) => f ep es
  | _ => none
noncomputable def objV (Z : V) (f : Id → Option α) : Option α := match Z with
  | .obj i => f i
  | _ => none
noncomputable def putIdx (H : Hp) (Z k v : V) : Option Hp := objV Z fun i => numI k fun k => dictP (H i) fun ep es =>
  if (putK es k v).length ≤ LIM then some (H.set i (.dict (if hasK es k then ep else ep + 1) (putK es k v))) else none
noncomputable def delIdxH (H : Hp) (Z k : V) : Option Hp := objV Z fun i => numI k fun k => dictP (H i) fun ep es =>
  if hasK es k then some (H.set i (.dict (ep + 1) (delK es k))) else none
noncomputable def truthyV (H : Hp) (v : V) : Option Bool := match v with
  | .none => some false
  | .bool b => some b
  | .obj i => listP (H i) fun xs => some (!xs.isEmpty)
  | _ => none
noncomputable def intsOf : List V → Option (List Int)
  | [] => some []
  | .int i :: r => (intsOf r).map (i :: ·)
  | _ :: _ => none
noncomputable def sortI (ns : List Int) : List Int := ns.mergeSort (fun a b => decide (a ≤ b))
noncomputable def newO (o : O) (Q : V → Hp → Prop) (H : Hp) : Prop := ∃ i, H i = none ∧ Q (.obj i) (H.set i o)
noncomputable def isN : V → Bool
  | .none => true
  | _ => false
noncomputable def memW (f : Bool → Bool) (a b : V) (Q : V → Hp → Prop) (H : Hp) : Prop := ∃ k i, a = .int k ∧ b = .obj i ∧
  ((∃ ep es, H i = some (.dict ep es) ∧ Q (.bool (f (hasK es k))) H) ∨ (∃ xs ns, H i = some (.list xs) ∧ intsOf xs = some ns ∧ Q (.bool (f (ns.contains k))) H))
noncomputable def cmpW (op : Cmp) (a b : V) (Q : V → Hp → Prop) (H : Hp) : Prop :=
  match op with
  | .eq => ∃ x y, dat 8 H a = some x ∧ dat 8 H b = some y ∧ Q (.bool (D.beq x y)) H
  | .ne => ∃ x y, dat 8 H a = some x ∧ dat 8 H b = some y ∧ Q (.bool (!D.beq x y)) H
  | .lt => ∃ i j, a = .int i ∧ b = .int j ∧ Q (.bool (decide (i < j))) H
  | .gt => ∃ i j, a = .int i ∧ b = .int j ∧ Q (.bool (decide (i > j))) H
  | .isNone => Q (.bool (isN a)) H
  | .isNotNone => Q (.bool (!isN a)) H
  | .in_ => memW (fun b => b) a b Q H
  | .notIn => memW (fun b => !b) a b Q H
noncomputable def binW (op : BOp) (a b : V) (Q : V → Hp → Prop) (H : Hp) : Prop :=
  match op with
  | .add => (∃ i j, a = .int i ∧ b = .int j ∧ Q (.int (i + j)) H) ∨
      (∃ i j xs ys, a = .obj i ∧ b = .obj j ∧ H i = some (.list xs) ∧ H j = some (.list ys) ∧ xs.length + ys.length ≤ LIM ∧ newO (.list (xs ++ ys)) Q H)
  | .sub => ∃ i j, a = .int i ∧ b = .int j ∧ Q (.int (i - j)) H
  | .mod => ∃ i j, a = .int i ∧ b = .int j ∧ j ≠ 0 ∧ Q (.int (i.fmod j)) H
  | .fdiv => ∃ i j, a = .int i ∧ b = .int j ∧ 0 < j ∧ j < 1000000 ∧ Q (.int (i.fdiv j)) H
noncomputable def methL (m : Mth) (i : Id) (args : List V) (Q : V → Hp → Prop) (H : Hp) : Prop := ∃ xs, H i = some (.list xs) ∧
  match m with
  | .append => ∃ x, args = [x] ∧ xs.length + 1 ≤ LIM ∧ Q .none (H.set i (.list (xs ++ [x])))
  | .extend => ∃ j ys, args = [.obj j] ∧ H j = some (.list ys) ∧ xs.length + ys.length ≤ LIM ∧ Q .none (H.set i (.list (xs ++ ys)))
  | .pop => ∃ ys y, args = [] ∧ xs = ys ++ [y] ∧ Q y (H.set i (.list ys))
  | .remove => ∃ k ns, args = [.int k] ∧ intsOf xs = some ns ∧ k ∈ ns ∧ Q .none (H.set i (.list ((ns.erase k).map V.int)))
  | .get => False
noncomputable def methD (m : Mth) (i : Id) (args : List V) (Q : V → Hp → Prop) (H : Hp) : Prop := ∃ ep es, H i = some (.dict ep es) ∧
  match m with
  | .get => ∃ k d, (args = [.int k] ∧ d = .none ∨ args = [.int k, d]) ∧ Q ((getK es k).getD d) H
  | .pop => ∃ k v, args = [.int k] ∧ getK es k = some v ∧ Q v (H.set i (.dict (ep + 1) (delK es k)))
  | _ => False
noncomputable def bltW (b : Blt) (v : V) (Q : V → Hp → Prop) (H : Hp) : Prop :=
  match b with
  | .len => ∃ i xs, v = .obj i ∧ H i = some (.list xs) ∧ Q (.int xs.length) H
  | .list => ∃ i xs, v = .obj i ∧ H i = some (.list xs) ∧ newO (.list xs) Q H
  | .sorted => ∃ i, v = .obj i ∧ ((∃ xs ns, H i = some (.list xs) ∧ intsOf xs = some ns ∧ ns.length ≤ 60 ∧ newO (.list ((sortI ns).map V.int)) Q H) ∨
      (∃ ep es, H i = some (.dict ep es) ∧ es.length ≤ 60 ∧ newO (.list ((sortI (es.map (·.1))).map V.int)) Q H))
  | .lenSet => ∃ i xs ns, v = .obj i ∧ H i = some (.list xs) ∧ intsOf xs = some ns ∧ ns.Nodup ∧ ns.length ≤ 1000 ∧ Q (.int ns.length) H
  | .listValues => ∃ i ep es, v = .obj i ∧ H i = some (.dict ep es) ∧ newO (.list (es.map (·.2))) Q H
  | .listItems => ∃ i ep es, v = .obj i ∧ H i = some (.dict ep es) ∧ newO (.list (es.map fun p => .tup [.int p.1, p.2])) Q H
  | .isEmpty => ∃ i ep es, v = .obj i ∧ H i = some (.dict ep es) ∧ Q (.bool es.isEmpty) H
noncomputable def srcP (i : Id) (o : Option O) : Option (List V × Option Id) := match o with
  | some (.list xs) => some (xs, some i)
  | some (.dict _ es) => some (es.map fun p => .int p.1, some i)
  | _ => none
noncomputable def srcOf (k : SrcK) (H : Hp) (v : V) : Option (List V × Option Id) := match k with
  | .plain => objV v fun i => srcP i (H i)
  | .rev => objV v fun i => listP (H i) fun xs => some (xs.reverse, some i)
  | .values => objV v fun i => dictP (H i) fun _ es => some (es.map (·.2), some i)
  | .enum => objV v fun i => listP (H i) fun xs => some (xs.zipIdx.map fun p => .tup [.int p.2, p.1], some i)
  | .range => numI v fun n => if 0 ≤ n ∧ n < 1000 then some ((List.range n.toNat).map fun (j : Nat) => V.int (j : Int), none) else none
noncomputable def staysO (H H' : Hp) : Option Id → Prop
  | some i => H' i = H i
  | none => True
noncomputable def bindT (ρ : Env) : List String → V → Option Env
  | [x], v => some (ρ.upd x v)
  | [x, y], .tup [a, b] => some ((ρ.upd x a).upd y b)
  | _, _ => none
noncomputable def bindAll (ρ : Env) : List String → List V → Option Env
  | [], [] => some ρ
  | x :: xs, v :: vs => bindAll (ρ.upd x v) xs vs
  | _, _ => none
noncomputable def putAttrs (H : Hp) (o : V) : List String → List V → Option Hp
  | [], [] => some H
  | x :: xs, v :: vs => (putAttr H o x v).bind fun H' => putAttrs H' o xs vs
  | _, _ => none
noncomputable abbrev CallP := String → List V → (V → Hp → Prop) → Hp → Prop
mutual
noncomputable def wpE (C : CallP) : LE → Env → (V → Hp → Prop) → Hp → Prop
  | .var x, ρ, Q, H => ∃ v, ρ x = some v ∧ Q v H
  | .none, _, Q, H => Q .none H
  | .bool b, _, Q, H => Q (.bool b) H
  | .int i, _, Q, H => Q (.int i) H
  | .str s, _, Q, H => Q (.str s) H
  | .attr e x, ρ, Q, H => wpE C e ρ (fun v H => ∃ u, attrOf H v x = some u ∧ Q u H) H
  | .idx e i, ρ, Q, H => wpE C e ρ (fun v H => wpE C i ρ (fun k H => ∃ u, idxOf H v k = some u ∧ Q u H) H) H
  | .sliceTo e n, ρ, Q, H => wpE C e ρ (fun v H => wpE C n ρ (fun k H => ∃ i m xs, v = .obj i ∧ k = .int m ∧ H i = some (.list xs) ∧ 0 ≤ m ∧ m ≤ 100000 ∧ newO (.list (xs.take m.toNat)) Q H) H) H
  | .sliceFrom e n, ρ, Q, H => wpE C e ρ (fun v H => wpE C n ρ (fun k H => ∃ i m xs, v = .obj i ∧ k = .int m ∧ H i = some (.list xs) ∧ 0 ≤ m ∧ m ≤ 100000 ∧ newO (.list (xs.drop m.toNat)) Q H) H) H
  | .tup es, ρ, Q, H => wpEs C es ρ (fun vs H => Q (.tup vs) H) H
  | .list es, ρ, Q, H => wpEs C es ρ (fun vs H => newO (.list vs) Q H) H
  | .dict0, _, Q, H => newO (.dict 0 []) Q H
  | .call f es, ρ, Q, H => wpEs C es ρ (fun vs H => C f vs Q H) H
  | .meth e m es, ρ, Q, H => wpE C e ρ (fun v H => ∃ i, v = .obj i ∧ ((∃ xs, H i = some (.list xs) ∧ m ≠ .get ∧ wpEs C es ρ (fun vs H => methL m i vs Q H) H) ∨
      (∃ ep es', H i = some (.dict ep es') ∧ (m = .get ∨ m = .pop) ∧ wpEs C es ρ (fun vs H => methD m i vs Q H) H))) H
  | .blt b e, ρ, Q, H => wpE C e ρ (fun v H => bltW b v Q H) H
  | .cmp op a b, ρ, Q, H => wpE C a ρ (fun x H => wpE C b ρ (fun y H => cmpW op x y Q H) H) H
  | .band es, ρ, Q, H => wpAnd C es ρ Q H
  | .bor es, ρ, Q, H => wpOr C es ρ Q H
  | .not e, ρ, Q, H => wpE C e ρ (fun v H => ∃ b, truthyV H v = some b ∧ Q (.bool (!b)) H) H
  | .ite c a b, ρ, Q, H => wpE C c ρ (fun v H => ∃ t, truthyV H v = some t ∧ (if t then wpE C a ρ Q H else wpE C b ρ Q H)) H
  | .bin op a b, ρ, Q, H => wpE C a ρ (fun x H => wpE C b ρ (fun y H => binW op x y Q H) H) H
  | .neg e, ρ, Q, H => wpE C e ρ (fun v H => ∃ i, v = .int i ∧ Q (.int (-i)) H) H
  | .comp elt x k src conds, ρ, Q, H => wpE C src ρ (fun v H => ∃ items keep, srcOf k H v = some (items, keep) ∧
      ∃ I : Nat → List V → Hp → Prop, I 0 [] H ∧ (∀ j acc H', I j acc H' → staysO H H' keep ∧ acc.length ≤ j) ∧
        (∀ j acc H' it, items[j]? = some it → I j acc H' → wpCs C conds (ρ.upd x it) (fun ok H₁ =>
          if ok then wpE C elt (ρ.upd x it) (fun u H₂ => I (j + 1) (acc ++ [u]) H₂) H₁ else I (j + 1) acc H₁) H') ∧
        (∀ acc H', I items.length acc H' → newO (.list acc) Q H')) H
noncomputable def wpEs (C : CallP) : List LE → Env → (List V → Hp → Prop) → Hp → Prop
  | [], _, Q, H => Q [] H
  | e :: es, ρ, Q, H => wpE C e ρ (fun v H => wpEs C es ρ (fun vs H => Q (v :: vs) H) H) H
noncomputable def wpAnd (C : CallP) : List LE → Env → (V → Hp → Prop) → Hp → Prop
  | [], _, _, _ => False
  | e :: es, ρ, Q, H => match es with
    | [] => wpE C e ρ Q H
    | _ :: _ => wpE C e ρ (fun v H => ∃ t, truthyV H v = some t ∧ (if t then wpAnd C es ρ Q H else Q v H)) H
noncomputable def wpOr (C : CallP) : List LE → Env → (V → Hp → Prop) → Hp → Prop
  | [], _, _, _ => False
  | e :: es, ρ, Q, H => match es with
    | [] => wpE C e ρ Q H
    | _ :: _ => wpE C e ρ (fun v H => ∃ t, truthyV H v = some t ∧ (if t then Q v H else wpOr C es ρ Q H)) H
noncomputable def wpCs (C : CallP) : List LE → Env → (Bool → Hp → Prop) → Hp → Prop
  | [], _, Q, H => Q true H
  | e :: es, ρ, Q, H => wpE C e ρ (fun v H => ∃ t, truthyV H v = some t ∧ (if t then wpCs C es ρ Q H else Q false H)) H
end
noncomputable abbrev PostS := Fl → Env → Hp → Prop
mutual
noncomputable def wpS (C : CallP) : LS → Env → PostS → Hp → Prop
  | .assign x e, ρ, Q, H => wpE C e ρ (fun v H => Q .next (ρ.upd x v) H) H
  | .assignTup xs e, ρ, Q, H => wpE C e ρ (fun v H => ∃ vs ρ', v = .tup vs ∧ bindAll ρ xs vs = some ρ' ∧ Q .next ρ' H) H
  | .assignAttr o a e, ρ, Q, H => wpE C e ρ (fun v H => wpE C o ρ (fun u H => ∃ H', putAttr H u a v = some H' ∧ Q .next ρ H') H) H
  | .assignAttrs x as e, ρ, Q, H => wpE C e ρ (fun v H => ∃ vs u H', v = .tup vs ∧ ρ x = some u ∧ putAttrs H u as vs = some H' ∧ Q .next ρ H') H
  | .assignIdx o i e, ρ, Q, H => wpE C e ρ (fun v H => wpE C o ρ (fun u H => wpE C i ρ (fun k H => ∃ H', putIdx H u k v = some H' ∧ Q .next ρ H') H) H) H
  | .augAttr o a op e, ρ, Q, H => wpE C o ρ (fun u H => ∃ old, attrOf H u a = some (.int old) ∧ wpE C e ρ (fun v H => binW op (.int old) v (fun r H => ∃ H', putAttr H u a r = some H' ∧ Q .next ρ H') H) H) H
  | .augIdx o i op e, ρ, Q, H => wpE C o ρ (fun u H => wpE C i ρ (fun k H => ∃ old, idxOf H u k = some (.int old) ∧
      wpE C e ρ (fun v H => binW op (.int old) v (fun r H => ∃ H', putIdx H u k r = some H' ∧ Q .next ρ H') H) H) H) H
  | .expr e, ρ, Q, H => wpE C e ρ (fun _ H => Q .next ρ H) H
  | .ret e, ρ, Q, H => wpE C e ρ (fun v H => Q (.ret v) ρ H) H
  | .ifs c t f, ρ, Q, H => wpE C c ρ (fun v H => ∃ b, truthyV H v = some b ∧ (if b then wpSs C t ρ Q H else wpSs C f ρ Q H)) H
  | .while c b, ρ, Q, H => ∃ I : Nat → Env → Hp → Prop, (∃ n, I n ρ H) ∧ ∀ n ρ H, I n ρ H → wpE C c ρ (fun v H => ∃ t, truthyV H v = some t ∧
      (if t then wpSs C b ρ (fun fl ρ' H' => match fl with
        | .next => ∃ m, m < n ∧ I m ρ' H'
        | .ret v => Q (.ret v) ρ' H') H else Q .next ρ H)) H
  | .for xs k src b, ρ, Q, H => wpE C src ρ (fun v H => ∃ items keep, srcOf k H v = some (items, keep) ∧
      ∃ I : Nat → Env → Hp → Prop, I 0 ρ H ∧ (∀ j ρ' H', I j ρ' H' → staysO H H' keep) ∧
        (∀ j ρ' H' it, items[j]? = some it → I j ρ' H' → ∃ ρ'', bindT ρ' xs it = some ρ'' ∧ wpSs C b ρ'' (fun fl ρ₁ H₁ => match fl with
          | .next => I (j + 1) ρ₁ H₁
          | .ret v => Q (.ret v) ρ₁ H₁) H') ∧
        (∀ ρ' H', I items.length ρ' H' → Q .next ρ' H')) H
  | .delIdx o i, ρ, Q, H => wpE C o ρ (fun u H => wpE C i ρ (fun k H => ∃ H', delIdxH H u k = some H' ∧ Q .next ρ H') H) H
  | .pass, ρ, Q, H => Q .next ρ H
  | .fail, _, _, _ => False
noncomputable def wpSs (C : CallP) : List LS → Env → PostS → Hp → Prop
  | [], ρ, Q, H => Q .next ρ H
  | s :: r, ρ, Q, H => wpS C s ρ (fun fl ρ' H' => match fl with
    | .next => wpSs C r ρ' Q H'
    | .ret v => Q (.ret v) ρ' H') H
end
section
variable {α : Type} {a : α} {H : Hp} {o : Option O} {Z u k : V} {x : String} {P : Prop}
theorem numI_el {f : Int → Option α} (h : numI Z f = some a) (q : ∀ i, Z = .int i → f i = some a → P) : P := by
  cases Z with
  | int i => exact q i rfl h
  | _ => cases h
theorem objV_el {f : Id → Option α} (h : objV Z f = some a) (q : ∀ i, Z = .obj i → f i = some a → P) : P := by
  cases Z with
  | obj i => exact q i rfl h
  | _ => cases h
theorem dictP_el {f : Nat → List (Int × V) → Option α} (h : dictP o f = some a) (q : ∀ ep es, o = some (.dict ep es) → f ep es = some a → P) : P := by
  cases o with
  | none => cases h
  | some o => cases o with
    | dict ep es => exact q ep es rfl h
    | _ => cases h
theorem listP_el {f : List V → Option α} (h : listP o f = some a) (q : ∀ xs, o = some (.list xs) → f xs = some a → P) : P := by
  cases o with
  | none => cases h
  | some o => cases o with
    | list xs => exact q xs rfl h
    | _ => cases h
theorem iteO_el {c : Prop} [Decidable c] {y : α} (h : (if c then some y else none) = some a) (q : c → y = a → P) : P := by
  by_cases z : c
  · rw [if_pos z] at h; exact q z (Option.some.inj h)
  · rw [if_neg z] at h; cases h
theorem instF_el (h : instF o x = some u) (q : ∀ c fs, o = some (.inst c fs) → fs.lookup x = some u → P) : P := by
  cases o with
  | none => cases h
  | some o => cases o with
    | inst c fs => exact q c fs rfl h
    | _ => cases h
theorem attrOf_el (h : attrOf H Z x = some u) (q : ∀ i c fs, Z = .obj i → H i = some (.inst c fs) → fs.lookup x = some u → P) : P := by
  cases Z with
  | obj i => exact instF_el h fun c fs => q i c fs rfl
  | _ => cases h
theorem putAttr_el {H' : Hp} (h : putAttr H Z x u = some H') (q : ∀ i c fs, Z = .obj i → H i = some (.inst c fs) → (putF fs x u).length ≤ 100 → H.set i (.inst c (putF fs x u)) = H' → P) : P := by
  cases Z with
  | obj i =>
    have h : instP H i x u (H i) = some H' := h
    generalize hi : H i = o at h
    cases o with
    | none => cases h
    | some o => cases o with
      | inst c fs => exact iteO_el h (q i c fs rfl hi)
      | _ => cases h
  | _ => cases h
theorem atI_el {xs : List V} {k : Int} (h : atI xs k = some u) (q : 0 ≤ k → k < 100000 → xs[k.toNat]? = some u → P) : P := by
  unfold atI at h
  by_cases z : 0 ≤ k ∧ k < 100000
  · rw [if_pos z] at h; exact q z.1 z.2 h
  · rw [if_neg z] at h; cases h
end
theorem lookup_el {α β : Type} [BEq α] [LawfulBEq α] {p : α × β} {r : List (α × β)} {x : α} {u : β} {P : Prop} (h : (p :: r).lookup x = some u) (k1 : x = p.1 → p.2 = u → P) (k2 : x ≠ p.1 → r.lookup x = some u → P) : P := by
  rw [List.lookup_cons] at h
  by_cases q : x = p.1
  · rw [beq_iff_eq.mpr q] at h; exact k1 q (Option.some.inj h)
  · rw [beq_eq_false_iff_ne.mpr q] at h; exact k2 q h
end Mine
end
noncomputable section
open PySem PySem.W PyProof.Rows
set_option maxRecDepth 100000
namespace Mine
noncomputable abbrev Mu := Id → Bool → Option Nat
mutual
noncomputable def VRel (μ : Mu) (h : Heap) : V → Value → Prop
  | .none, v => v = .none
  | .bool b, v => v = .bool b
  | .int i, v => ∃ t, v = .int i t
  | .str x, v => ∃ t, v = .str (Str.ofString x) t
  | .tup vs, v => ∃ a items, v = .ref a ∧ IsTup h a items ∧ (∀ i t, μ i t ≠ some a) ∧ VRels μ h vs items.toList
  | .obj i, v => ∃ a, v = .ref a ∧ μ i false = some a
noncomputable def VRels (μ : Mu) (h : Heap) : List V → List Value → Prop
  | [], vs => vs = []
  | x :: xs, vs => ∃ v r, vs = v :: r ∧ VRel μ h x v ∧ VRels μ h xs r
end
theorem VRels.nil {μ : Mu} {h : Heap} : VRels μ h [] [] := rfl
theorem VRel.n {μ : Mu} {h : Heap} : VRel μ h .none .none := rfl
theorem VRel.b {μ : Mu} {h : Heap} {b : Bool} : VRel μ h (.bool b) (.bool b) := rfl
theorem VRel.i {μ : Mu} {h : Heap} {i : Int} {t : Tok} : VRel μ h (.int i) (.int i t) := Exists.intro t rfl
theorem VRel.s {μ : Mu} {h : Heap} {x : String} {t : Tok} : VRel μ h (.str x) (.str (Str.ofString x) t) := Exists.intro t rfl
theorem VRel.o {μ : Mu} {h : Heap} {i : Id} {a : Nat} (m : μ i false = some a) : VRel μ h (.obj i) (.ref a) := Exists.intro a ⟨rfl, m⟩
theorem VRel.t {μ : Mu} {h : Heap} {vs : List V} {a : Nat} {items : Array Value} (T : IsTup h a items) (n : ∀ i t, μ i t ≠ some a) (r : VRels μ h vs items.toList) : VRel μ h (.tup vs) (.ref a) := Exists.intro a (Exists.intro items ⟨rfl, T, n, r⟩)
theorem VRels.cons {μ : Mu} {h : Heap} {x : V} {v : Value} {xs : List V} {vs : List Value} (a : VRel μ h x v) (b : VRels μ h xs vs) : VRels μ h (x :: xs) (v :: vs) :=
  Exists.intro v (Exists.intro vs ⟨rfl, a, b⟩)
section
variable {μ : Mu} {h : Heap} {xs : List V} {vs : List Value} {x : V}
@[elab_as_elim] theorem VRels.nel (r : VRels μ h [] vs) {P : List Value → Prop} (k : P []) : P vs := by obtain rfl : vs = [] := r; exact k
@[elab_as_elim] theorem VRels.el (r : VRels μ h (x :: xs) vs) {P : List Value → Prop} (k : ∀ v vs, VRel μ h x v → VRels μ h xs vs → P (v :: vs)) : P vs := by
  obtain ⟨v, r, rfl, a, b⟩ := r; exact k v r a b
@[elab_as_elim] theorem VRel.iel {i : Int} {v : Value} (r : VRel μ h (.int i) v) {P : Value → Prop} (k : ∀ t, P (.int i t)) : P v := by obtain ⟨t, rfl⟩ := r; exact k t
@[elab_as_elim] theorem VRel.oel {i : Id} {v : Value} (r : VRel μ h (.obj i) v) {P : Value → Prop} (k : ∀ a, μ i false = some a → P (.ref a)) : P v := by obtain ⟨t, rfl, m⟩ := r; exact k t m
@[elab_as_elim] theorem VRel.tel {us : List V} {v : Value} (r : VRel μ h (.tup us) v) {P : Value → Prop} (k : ∀ a items, IsTup h a items → (∀ i t, μ i t ≠ some a) → VRels μ h us items.toList → P (.ref a)) : P v := by
  obtain ⟨a, items, rfl, T, n, b⟩ := r; exact k a items T n b
theorem VRels.length (r : VRels μ h xs vs) : vs.length = xs.length := by
  induction xs generalizing vs with
  | nil => exact r.nel rfl
  | cons x xs ih => exact r.el fun v vs _ b => congrArg (· + 1) (ih b)
theorem VRels.append {ys : List V} {us : List Value} (r : VRels μ h xs vs) (f : VRels μ h ys us) : VRels μ h (xs ++ ys) (vs ++ us) := by
  induction xs generalizing vs with
  | nil => exact r.nel f
  | cons x xs ih => exact r.el fun v vs a b => VRels.cons a (ih b)
theorem VRels.get {j : Nat} {x : V} (r : VRels μ h xs vs) (f : xs[j]? = some x) : ∃ v, vs[j]? = some v ∧ VRel μ h x v := by
  induction xs generalizing vs j with
  | nil => cases f
  | cons y xs ih =>
    refine r.el fun v vs a b => ?_
    cases j with
    | zero => cases f; exact ⟨v, rfl, a⟩
    | succ j => exact ih (j := j) b f
theorem VRels.take (n : Nat) (r : VRels μ h xs vs) : VRels μ h (xs.take n) (vs.take n) := by
  induction xs generalizing vs n with
  | nil => refine r.nel ?_; rw [List.take_nil, List.take_nil]; exact VRels.nil
  | cons y xs ih =>
    refine r.el fun v vs a b => ?_
    cases n with
    | zero => exact VRels.nil
    | succ n => exact VRels.cons a (ih n b)
theorem VRels.drop (n : Nat) (r : VRels μ h xs vs) : VRels μ h (xs.drop n) (vs.drop n) := by
  induction xs generalizing vs n with
  | nil => refine r.nel ?_; rw [List.drop_nil, List.drop_nil]; exact VRels.nil
  | cons y xs ih =>
    cases n with
    | zero => exact r
    | succ n => exact r.el fun v vs a b => ih n b
theorem VRels.reverse (r : VRels μ h xs vs) : VRels μ h xs.reverse vs.reverse := by
  induction xs generalizing vs with
  | nil => exact r.nel VRels.nil
  | cons y xs ih =>
    refine r.el fun v vs a b => ?_
    rw [List.reverse_cons, List.reverse_cons]
    exact (ih b).append (VRels.cons a VRels.nil)
end
structure Ext (μ : Mu) (h : Heap) (μ' : Mu) (h' : Heap) : Prop where
  mu : ∀ i t a, μ i t = some a → μ' i t = some a
  fresh : ∀ i t a, μ' i t = some a → μ i t = some a ∨ (h.get? a = none ∧ ∀ j u, μ j u ≠ some a)
  keep : ∀ b o, h.get? b = some o → (∀ i t, μ i t ≠ some b) → h'.get? b = some o
theorem get?_size (h : Heap) : h.get? h.objs.size = none := by
  cases e : h.get? h.objs.size with
  | none => rfl
  | some o => exact absurd (Heap.lt_size e) (Nat.lt_irrefl _)
theorem get?_above {h : Heap} {a : Nat} (l : h.objs.size ≤ a) : h.get? a = none := by
  cases e : h.get? a with
  | none => rfl
  | some o => exact absurd (Heap.lt_size e) (Nat.not_lt.mpr l)
theorem Ext.refl (μ : Mu) (h : Heap) : Ext μ h μ h := ⟨fun _ _ _ e => e, fun _ _ _ e => .inl e, fun _ _ e _ => e⟩
theorem Ext.off {μ μ' : Mu} {h h' : Heap} (x : Ext μ h μ' h') {b : Addr} {o : Obj} (hb : h.get? b = some o) (n : ∀ i t, μ i t ≠ some b) : ∀ i t, μ' i t ≠ some b := fun i t e => by
  rcases x.fresh i t b e with q | ⟨q, _⟩
  · exact n i t q
  · rw [q] at hb; cases hb
theorem Ext.trans {μ μ' μ'' : Mu} {h h' h'' : Heap} (x : Ext μ h μ' h') (y : Ext μ' h' μ'' h'') : Ext μ h μ'' h'' where
  mu := fun i t a e => y.mu i t a (x.mu i t a e)
  fresh := fun i t a e => by
    rcases y.fresh i t a e with q | ⟨q, n⟩
    · exact x.fresh i t a q
    · have n' : ∀ j u, μ j u ≠ some a := fun j u z => n j u (x.mu j u a z)
      refine .inr ⟨?_, n'⟩
      cases z : h.get? a with
      | none => rfl
      | some o => rw [x.keep a o z n'] at q; cases q
  keep := fun b o e n => y.keep b o (x.keep b o e n) (x.off e n)
mutual
theorem VRel.gen {μ μ' : Mu} {h h' : Heap} (mu : ∀ i t a, μ i t = some a → μ' i t = some a) (tp : ∀ a items, IsTup h a items → (∀ i t, μ i t ≠ some a) → IsTup h' a items ∧ ∀ i t, μ' i t ≠ some a) : ∀ {V : V} {v : Value}, VRel μ h V v → VRel μ' h' V v
  | .none, v, e | .bool b, v, e | .int i, v, e | .str s, v, e => e
  | .tup vs, v, e => e.tel fun a items T n b => VRel.t (tp a items T n).1 (tp a items T n).2 (VRels.gen mu tp b)
  | .obj i, v, e => e.oel fun a m => VRel.o (mu _ _ _ m)
theorem VRels.gen {μ μ' : Mu} {h h' : Heap} (mu : ∀ i t a, μ i t = some a → μ' i t = some a) (tp : ∀ a items, IsTup h a items → (∀ i t, μ i t ≠ some a) → IsTup h' a items ∧ ∀ i t, μ' i t ≠ some a) : ∀ {Vs : List V} {vs : List Value}, VRels μ h Vs vs → VRels μ' h' Vs vs
  | [], vs, e => e
  | V :: Vs, vs, e => e.el fun v vs a b => VRels.cons (VRel.gen mu tp a) (VRels.gen mu tp b)
end
theorem Ext.tup {μ μ' : Mu} {h h' : Heap} (x : Ext μ h μ' h') (a : Nat) (items : Array Value) (T : IsTup h a items) (n : ∀ i t, μ i t ≠ some a) : IsTup h' a items ∧ ∀ i t, μ' i t ≠ some a := by
  obtain ⟨o, ho, r⟩ := T; exact ⟨⟨o, x.keep a o ho n, r⟩, x.off ho n⟩
theorem VRel.ext {μ μ' : Mu} {h h' : Heap} (x : Ext μ h μ' h') {Z : V} {v : Value} (r : VRel μ h Z v) : VRel μ' h' Z v := r.gen x.mu x.tup
theorem VRels.ext {μ μ' : Mu} {h h' : Heap} (x : Ext μ h μ' h') {Zs : List V} {vs : List Value} (r : VRels μ h Zs vs) : VRels μ' h' Zs vs := r.gen x.mu x.tup
noncomputable def FRel (μ : Mu) (h : Heap) : List (String × V) → List DictEntry → Prop
  | [], es => es = []
  | p :: r, es => ∃ e t, es = e :: t ∧ (∃ k, e.key = .str (Str.ofString p.1) k) ∧ VRel μ h p.2 e.val ∧ FRel μ h r t
section
variable {μ : Mu} {h : Heap} {fs : List (String × V)} {es : List DictEntry} {p : String × V}
@[elab_as_elim] theorem FRel.nel (r : FRel μ h [] es) {P : List DictEntry → Prop} (k : P []) : P es := by obtain rfl : es = [] := r; exact k
@[elab_as_elim] theorem FRel.el (r : FRel μ h (p :: fs) es) {P : List DictEntry → Prop} (k : ∀ e t tk, e.key = .str (Str.ofString p.1) tk → VRel μ h p.2 e.val → FRel μ h fs t → P (e :: t)) : P es := by
  obtain ⟨v, r, rfl, ⟨tk, a⟩, b, c⟩ := r; exact k v r tk a b c
theorem FRel.cons {e : DictEntry} {tk : Tok} (hk : e.key = .str (Str.ofString p.1) tk) (a : VRel μ h p.2 e.val) (b : FRel μ h fs es) : FRel μ h (p :: fs) (e :: es) := Exists.intro e (Exists.intro es ⟨rfl, ⟨tk, hk⟩, a, b⟩)
theorem FRel.each {μ' : Mu} {h' : Heap} (k : ∀ {Z : V} {v : Value}, VRel μ h Z v → VRel μ' h' Z v) (r : FRel μ h fs es) : FRel μ' h' fs es := by
  induction fs generalizing es with
  | nil => exact r
  | cons p fs ih => exact r.el fun e t tk a b c => FRel.cons a (k b) (ih c)
theorem FRel.ext {μ' : Mu} {h' : Heap} (x : Ext μ h μ' h') (r : FRel μ h fs es) : FRel μ' h' fs es := r.each (VRel.ext x)
theorem FRel.length (r : FRel μ h fs es) : es.length = fs.length := by
  induction fs generalizing es with
  | nil => exact r.nel rfl
  | cons p fs ih => exact r.el fun e t tk a b c => congrArg (· + 1) (ih c)
end
theorem str_ofString_inj {a b : String} (h : Str.ofString a = Str.ofString b) : a = b := by
  rw [Str.ofString_eq_toList, Str.ofString_eq_toList] at h
  have h1 : a.toList.map Char.toNat = b.toList.map Char.toNat := by
    have := congrArg (fun s : Str => s.cps.toList) h
    simpa using this
  have h2 : a.toList = b.toList := by
    have inj : ∀ c d : Char, c.toNat = d.toNat → c = d := fun c d e => Char.ext (UInt32.toNat_inj.mp e)
    exact (List.map_inj_right (fun {c d} e => inj c d e)).mp h1
  exact String.toList_inj.mp h2
theorem ofString_beq (a b : String) : (Str.ofString a == Str.ofString b) = decide (a = b) := by
  by_cases h : a = b
  · subst h; simp
  · simp only [h, decide_false]
    exact beq_eq_false_iff_ne.mpr fun e => h (str_ofString_inj e)
variable (prog : Program) (w : World) (base : Heap) (caddr : Cls → Addr)
noncomputable abbrev knd := intKind prog w
noncomputable def PRel (μ : Mu) (h : Heap) : List (Int × V) → List (Int × Value) → Prop
  | [], kvs => kvs = []
  | p :: r, kvs => ∃ v t, kvs = (p.1, v) :: t ∧ VRel μ h p.2 v ∧ PRel μ h r t
inductive OOk (μ : Mu) (h : Heap) (i : Id) : O → Prop
  | list {xs : List V} {a : Nat} {items : Array Value} {n : Nat} (m : μ i false = some a) (l : IsL h a items n) (r : VRels μ h xs items.toList) (z : xs.length ≤ LIM) : OOk μ h i (.list xs)
  | dict {ep : Nat} {es : List (Int × V)} {a : Nat} {kvs : List (Int × Value)} (m : μ i false = some a) (D : h.DictAt (knd prog w) a kvs ep) (r : PRel μ h es kvs) (z : es.length ≤ LIM) : OOk μ h i (.dict ep es)
  | inst {c : Cls} {fs : List (String × V)} {a d : Nat} {es : List DictEntry} {n : Nat} (m1 : μ i false = some a) (m2 : μ i true = some d) (ha : h.get? a = some (instObj (caddr c) d)) (hd : h.get? d = some (dictOf es n))
      (f : FRel μ h fs es) (z : fs.length ≤ 100) : OOk μ h i (.inst c fs)
structure Core (μ : Mu) (H : Hp) (h : Heap) : Prop where
  objs : ∀ i o, H i = some o → OOk prog w caddr μ h i o
  dom : ∀ i, H i = none → ∀ t, μ i t = none
  inj : ∀ i t j u a, μ i t = some a → μ j u = some a → i = j ∧ t = u
  off : ∀ i t a, μ i t = some a → base.get? a = none ∧ cStatics < a ∧ ∃ o, h.get? a = some o
  bas : ∀ b o, base.get? b = some o → h.get? b = some o
  low : ∃ o, base.get? cStatics = some o
variable {prog w base caddr}
theorem Core.ne_base {μ : Mu} {H : Hp} {h : Heap} (C : Core prog w base caddr μ H h) {b : Addr} {o : Obj} (e : base.get? b = some o) : ∀ i t, μ i t ≠ some b := fun i t q => by
  rw [(C.off i t b q).1] at e; cases e
theorem Core.lt {μ : Mu} {H : Hp} {h : Heap} (C : Core prog w base caddr μ H h) {i : Id} {t : Bool} {a : Nat} (q : μ i t = some a) : a < h.objs.size := let ⟨_, e⟩ := (C.off i t a q).2.2; Heap.lt_size e
theorem Core.ne_new {μ : Mu} {H : Hp} {h : Heap} (C : Core prog w base caddr μ H h) {b : Addr} (e : h.get? b = none) : ∀ i t, μ i t ≠ some b := fun i t q => by
  obtain ⟨_, _, o, z⟩ := C.off i t b q
  rw [z] at e; cases e
theorem Core.new_base {μ : Mu} {H : Hp} {h : Heap} (C : Core prog w base caddr μ H h) {b : Addr} (e : h.get? b = none) : base.get? b = none := by
  cases z : base.get? b with
  | none => rfl
  | some o => rw [C.bas b o z] at e; cases e
theorem Core.new_low {μ : Mu} {H : Hp} {h : Heap} (C : Core prog w base caddr μ H h) {b : Nat} (e : h.objs.size ≤ b) : cStatics < b := by
  obtain ⟨o, z⟩ := C.low
  exact Nat.lt_of_lt_of_le (Heap.lt_size (C.bas _ _ z)) e
section
variable {μ μ' : Mu} {h h' : Heap} {es : List (Int × V)} {kvs : List (Int × Value)} {p : Int × V}
@[elab_as_elim] theorem PRel.nel (r : PRel μ h [] kvs) {P : List (Int × Value) → Prop} (k : P []) : P kvs := by obtain rfl : kvs = [] := r; exact k
@[elab_as_elim] theorem PRel.el (r : PRel μ h (p :: es) kvs) {P : List (Int × Value) → Prop} (k : ∀ v t, VRel μ h p.2 v → PRel μ h es t → P ((p.1, v) :: t)) : P kvs := by
  obtain ⟨v, t, rfl, a, b⟩ := r; exact k v t a b
theorem PRel.cons {v : Value} (a : VRel μ h p.2 v) (b : PRel μ h es kvs) : PRel μ h (p :: es) ((p.1, v) :: kvs) := Exists.intro v (Exists.intro kvs ⟨rfl, a, b⟩)
theorem PRel.each (k : ∀ {Z : V} {v : Value}, VRel μ h Z v → VRel μ' h' Z v) (r : PRel μ h es kvs) : PRel μ' h' es kvs := by
  induction es generalizing kvs with
  | nil => exact r
  | cons p es ih => exact r.el fun v t a b => PRel.cons (k a) (ih b)
theorem PRel.ext (x : Ext μ h μ' h') (r : PRel μ h es kvs) : PRel μ' h' es kvs := r.each (VRel.ext x)
theorem VRels.each (k : ∀ {Z : V} {v : Value}, VRel μ h Z v → VRel μ' h' Z v) {xs : List V} {vs : List Value} (r : VRels μ h xs vs) : VRels μ' h' xs vs := by
  induction xs generalizing vs with
  | nil => exact r
  | cons p es ih => exact r.el fun v t a b => VRels.cons (k a) (ih b)
theorem OOk.each {i : Id} {o : O} (x : OOk prog w caddr μ h i o) (mu : ∀ i t a, μ i t = some a → μ' i t = some a) (v : ∀ {Z : V} {v : Value}, VRel μ h Z v → VRel μ' h' Z v) (k : ∀ t a ob, μ i t = some a → h.get? a = some ob → h'.get? a = some ob) : OOk prog w caddr μ' h' i o := by
  cases x with
  | list m l r z => exact .list (mu _ _ _ m) (k _ _ _ m l) (r.each v) z
  | dict m D r z => obtain ⟨ob, des, ho, q⟩ := D; exact .dict (mu _ _ _ m) ⟨ob, des, k _ _ _ m ho, q⟩ (r.each v) z
  | inst m1 m2 ha hd f z => exact .inst (mu _ _ _ m1) (mu _ _ _ m2) (k _ _ _ m1 ha) (k _ _ _ m2 hd) (f.each v) z
theorem OOk.ext {i : Id} {o : O} (x : OOk prog w caddr μ h i o) (e : Ext μ h μ' h') (k : ∀ t a ob, μ i t = some a → h.get? a = some ob → h'.get? a = some ob) : OOk prog w caddr μ' h' i o := x.each e.mu (VRel.ext e) k
variable {H : Hp} {i : Id} {a : Nat} {v : Value} {xs : List V} {ep : Nat}
theorem Core.listM (C : Core prog w base caddr μ H h) (hi : H i = some (.list xs)) (m : μ i false = some a) {P : Prop} (k : ∀ items n, IsL h a items n → VRels μ h xs items.toList → xs.length ≤ LIM → P) : P := by
  cases C.objs i _ hi with
  | list m' l r z => rw [m] at m'; cases m'; exact k _ _ l r z
theorem Core.dictM (C : Core prog w base caddr μ H h) (hi : H i = some (.dict ep es)) (m : μ i false = some a) {P : Prop} (k : ∀ kvs, h.DictAt (knd prog w) a kvs ep → PRel μ h es kvs → es.length ≤ LIM → P) : P := by
  cases C.objs i _ hi with
  | dict m' l r z => rw [m] at m'; cases m'; exact k _ l r z
theorem Core.instM {c : Cls} {fs : List (String × V)} (C : Core prog w base caddr μ H h) (hi : H i = some (.inst c fs)) (m : μ i false = some a) {P : Prop}
    (k : ∀ d es n, μ i true = some d → h.get? a = some (instObj (caddr c) d) → h.get? d = some (dictOf es n) → FRel μ h fs es → P) : P := by
  cases C.objs i _ hi with
  | inst m' m2 ha hd f z => rw [m] at m'; cases m'; exact k _ _ _ m2 ha hd f
@[elab_as_elim] theorem Core.listAt (rv : VRel μ h (.obj i) v) (C : Core prog w base caddr μ H h) (hi : H i = some (.list xs)) {P : Value → Prop} (k : ∀ a items n, μ i false = some a → IsL h a items n → VRels μ h xs items.toList → xs.length ≤ LIM → P (.ref a)) : P v :=
  rv.oel fun a m => C.listM hi m fun items n => k a items n m
@[elab_as_elim] theorem Core.dictAt (rv : VRel μ h (.obj i) v) (C : Core prog w base caddr μ H h) (hi : H i = some (.dict ep es)) {P : Value → Prop} (k : ∀ a kvs, μ i false = some a → h.DictAt (knd prog w) a kvs ep → PRel μ h es kvs → es.length ≤ LIM → P (.ref a)) : P v :=
  rv.oel fun a m => C.dictM hi m fun kvs => k a kvs m
end
noncomputable def Mu.set (μ : Mu) (i : Id) (t : Bool) (a : Nat) : Mu := fun j u => if j = i ∧ u = t then some a else μ j u
theorem Mu.set_self (μ : Mu) (i : Id) (t : Bool) (a : Nat) : (μ.set i t a) i t = some a := by simp [Mu.set]
theorem Mu.set_ne (μ : Mu) {i j : Id} {t u : Bool} (a : Nat) (h : ¬(j = i ∧ u = t)) : (μ.set i t a) j u = μ j u := by simp only [Mu.set, h, if_false]
theorem Ext.push (μ : Mu) (h : Heap) (o : Obj) : Ext μ h μ (h.push o) :=
  ⟨fun _ _ _ e => e, fun _ _ _ e => .inl e, fun _ _ e _ => Heap.get?_push_of_some _ e⟩
theorem Core.ext {μ : Mu} {H : Hp} {h h' : Heap} (C : Core prog w base caddr μ H h) (e : Ext μ h μ h') (k : ∀ i t a ob, μ i t = some a → h.get? a = some ob → h'.get? a = some ob) : Core prog w base caddr μ H h' where
  objs := fun i o ho => (C.objs i o ho).ext e fun t a ob => k i t a ob
  dom := C.dom
  inj := C.inj
  off := fun i t a q => let ⟨h1, h2, o, h3⟩ := C.off i t a q; ⟨h1, h2, o, k i t a o q h3⟩
  bas := fun b o q => e.keep b o (C.bas b o q) (C.ne_base q)
  low := C.low
theorem Core.push {μ : Mu} {H : Hp} {h : Heap} (C : Core prog w base caddr μ H h) (o : Obj) : Core prog w base caddr μ H (h.push o) :=
  C.ext (Ext.push μ h o) fun _ _ _ _ _ e => Heap.get?_push_of_some _ e
theorem Core.keeps {μ : Mu} {H : Hp} {h h' : Heap} (C : Core prog w base caddr μ H h) (k : ∀ b o, h.get? b = some o → h'.get? b = some o) : Core prog w base caddr μ H h' :=
  C.ext ⟨fun _ _ _ e => e, fun _ _ _ e => .inl e, fun b o e _ => k b o e⟩ fun _ _ a ob _ e => k a ob e
theorem Ext.keeps (μ : Mu) {h h' : Heap} (k : ∀ b o, h.get? b = some o → h'.get? b = some o) : Ext μ h μ h' :=
  ⟨fun _ _ _ e => e, fun _ _ _ e => .inl e, fun b o e _ => k b o e⟩
theorem Core.change {μ : Mu} {H : Hp} {h h' : Heap} {i : Id} {o' : O} {t₀ : Bool} {c : Nat} (C : Core prog w base caddr μ H h) (hi : μ i t₀ = some c)
    (k : ∀ b ob, h.get? b = some ob → b ≠ c → h'.get? b = some ob) (z : ∃ o, h'.get? c = some o) (new : Ext μ h μ h' → OOk prog w caddr μ h' i o') :
    Core prog w base caddr μ (H.set i o') h' ∧ Ext μ h μ h' := by
  have E : Ext μ h μ h' := ⟨fun _ _ _ e => e, fun _ _ _ e => .inl e, fun b o e n => k b o e fun q => n i t₀ (q ▸ hi)⟩
  refine ⟨⟨fun j o ho => ?_, fun j hj t => ?_, C.inj, fun j t a q => ?_, fun b o q => E.keep b o (C.bas b o q) (C.ne_base q), C.low⟩, E⟩
  · by_cases hji : j = i
    · subst hji
      rw [Hp.set_self] at ho
      cases ho
      exact new E
    · rw [Hp.set_ne _ _ hji] at ho
      exact (C.objs j o ho).ext E fun t a ob m e => k a ob e fun q => hji (C.inj j t i t₀ a m (q ▸ hi)).1
  · by_cases hji : j = i
    · subst hji; rw [Hp.set_self] at hj; cases hj
    · rw [Hp.set_ne _ _ hji] at hj; exact C.dom j hj t
  · obtain ⟨h1, h2, o, h3⟩ := C.off j t a q
    refine ⟨h1, h2, ?_⟩
    by_cases hac : a = c
    · subst hac; exact z
    · exact ⟨o, k a o h3 hac⟩
theorem Mu.set_el {μ : Mu} {i j : Id} {t u : Bool} {a b : Nat} {P : Prop} (e : (μ.set i t a) j u = some b) (k1 : j = i → u = t → b = a → P) (k2 : μ j u = some b → P) : P := by
  unfold Mu.set at e
  by_cases q : j = i ∧ u = t
  · rw [if_pos q] at e; exact k1 q.1 q.2 (Option.some.inj e).symm
  · rw [if_neg q] at e; exact k2 e
noncomputable def Mu.Inj (μ : Mu) : Prop := ∀ i t j u a, μ i t = some a → μ j u = some a → i = j ∧ t = u
theorem Mu.Inj.set {μ : Mu} (I : μ.Inj) {i : Id} {t : Bool} {a : Nat} (n : ∀ j u, μ j u ≠ some a) : (μ.set i t a).Inj := fun _ _ _ _ _ e f =>
  Mu.set_el e (fun h1 h2 h3 => Mu.set_el f (fun g1 g2 _ => ⟨h1.trans g1.symm, h2.trans g2.symm⟩) fun f => absurd (h3 ▸ f) (n _ _))
    fun e => Mu.set_el f (fun _ _ g3 => absurd (g3 ▸ e) (n _ _)) fun f => I _ _ _ _ _ e f
theorem Core.grow {μ μ' : Mu} {H : Hp} {h h' : Heap} {i : Id} {o' : O} (C : Core prog w base caddr μ H h) (hi : H i = none) (kp : ∀ b o, h.get? b = some o → h'.get? b = some o) (mu : ∀ j t, j ≠ i → μ' j t = μ j t) (inj : μ'.Inj)
    (nw : ∀ t a, μ' i t = some a → h.objs.size ≤ a ∧ ∃ o, h'.get? a = some o) (new : Ext μ h μ' h' → OOk prog w caddr μ' h' i o') : Core prog w base caddr μ' (H.set i o') h' ∧ Ext μ h μ' h' := by
  have E : Ext μ h μ' h' := ⟨fun j t a e => by rwa [mu j t fun q => by rw [q, C.dom i hi] at e; cases e], fun j t a e => by
    by_cases q : j = i
    · exact .inr ⟨get?_above (nw t a (q ▸ e)).1, C.ne_new (get?_above (nw t a (q ▸ e)).1)⟩
    · exact .inl (mu j t q ▸ e), fun b o e _ => kp b o e⟩
  refine ⟨⟨fun j o ho => ?_, fun j hj t => ?_, inj, fun j t a e => ?_, fun b o q => kp b o (C.bas b o q), C.low⟩, E⟩
  · by_cases q : j = i
    · subst q; rw [Hp.set_self] at ho; cases ho; exact new E
    · rw [Hp.set_ne _ _ q] at ho; exact (C.objs j o ho).ext E fun _ _ _ _ e => kp _ _ e
  · by_cases q : j = i
    · subst q; rw [Hp.set_self] at hj; cases hj
    · rw [Hp.set_ne _ _ q] at hj; rw [mu j t q]; exact C.dom j hj t
  · by_cases q : j = i
    · have n := nw t a (q ▸ e)
      exact ⟨C.new_base (get?_above n.1), C.new_low n.1, n.2⟩
    · obtain ⟨h1, h2, o, h3⟩ := C.off j t a (mu j t q ▸ e)
      exact ⟨h1, h2, o, kp _ _ h3⟩
theorem Core.allocInst {μ : Mu} {H : Hp} {h h' : Heap} {i : Id} {c : Cls} (C : Core prog w base caddr μ H h) (hi : H i = none) (hh : h' = (h.push emptyDict).push (instObj (caddr c) h.objs.size)) :
    ∃ μ', μ' i false = some (h.objs.size + 1) ∧ Core prog w base caddr μ' (H.set i (.inst c [])) h' ∧ Ext μ h μ' h' := by
  have n1 : ∀ j u, μ j u ≠ some h.objs.size := C.ne_new (get?_size h)
  have g2 : h'.get? h.objs.size = some emptyDict := hh ▸ Heap.get?_push_of_some _ (Heap.get?_push_size h rfl)
  have g1 : h'.get? (h.objs.size + 1) = some (instObj (caddr c) h.objs.size) := by
    have := Heap.get?_push_size (h.push emptyDict) (o := instObj (caddr c) h.objs.size) rfl
    rw [Heap.size_push] at this
    rw [hh]; exact this
  have m1 : ((μ.set i true h.objs.size).set i false (h.objs.size + 1)) i true = some h.objs.size := (Mu.set_ne (μ.set i true h.objs.size) (i := i) (j := i) (t := false) (u := true) _ fun q => Bool.noConfusion q.2).trans (Mu.set_self μ i true h.objs.size)
  refine ⟨(μ.set i true h.objs.size).set i false (h.objs.size + 1), Mu.set_self _ _ _ _, C.grow hi (fun b o e => hh ▸ Heap.get?_push_of_some _ (Heap.get?_push_of_some _ e)) (fun j t q => ?_) ?_ (fun t a e => ?_) fun _ => ?_⟩
  · rw [Mu.set_ne _ _ fun z => q z.1, Mu.set_ne _ _ fun z => q z.1]
  · exact (Mu.Inj.set C.inj n1).set fun j u e => Mu.set_el e (fun _ _ z => absurd z (Nat.succ_ne_self _)) (C.ne_new (get?_above (Nat.le_succ _)) j u)
  · refine Mu.set_el e (fun _ _ z => by rw [z]; exact ⟨Nat.le_succ _, _, g1⟩) fun e => Mu.set_el e (fun _ _ z => by rw [z]; exact ⟨Nat.le_refl _, _, g2⟩) fun e => ?_
    rw [C.dom i hi] at e; cases e
  · exact .inst (es := []) (n := 0) (Mu.set_self _ _ _ _) m1 g1 g2 rfl (Nat.zero_le _)
theorem Core.newAt {μ : Mu} {H : Hp} {h h' : Heap} {i : Id} {o' : O} {a : Nat} (C : Core prog w base caddr μ H h) (hi : H i = none) (kp : ∀ b o, h.get? b = some o → h'.get? b = some o) (lo : h.objs.size ≤ a) (hi' : ∃ o, h'.get? a = some o)
    (new : Ext μ h (μ.set i false a) h' → OOk prog w caddr (μ.set i false a) h' i o') : Core prog w base caddr (μ.set i false a) (H.set i o') h' ∧ Ext μ h (μ.set i false a) h' :=
  C.grow hi kp (fun j t q => Mu.set_ne _ _ fun z => q z.1) (Mu.Inj.set C.inj (C.ne_new (get?_above lo))) (fun t b e => Mu.set_el e (fun _ _ z => by rw [z]; exact ⟨lo, hi'⟩) fun e => by rw [C.dom i hi] at e; cases e) new
theorem dict_get {h : Heap} {a : Nat} {kvs : List (Int × Value)} {ep : Nat} (D : h.DictAt (knd prog w) a kvs ep) : ∃ o, h.get? a = some o := by obtain ⟨o, _, ho, _⟩ := D; exact ⟨o, ho⟩
end Mine
end
noncomputable section
open PySem PySem.W PyProof.Rows
set_option maxRecDepth 100000
namespace Mine
noncomputable def allAttrs : List String := ["why", "sort", "number", "count", "slots", "colour", "is_buffered", "has_destructor", "is_destructed", "is_freed", "weak",
  "cells", "vars", "log", "last", "buffer", "full", "freed", "plan", "tables", "entries"]
structure Stat (K : Frag) (base : Heap) (mg mb : Str → Option Value) (caddr : Cls → Addr) : Prop where
  X : K.In base
  g : base.Ns mainGlobals mg
  b : base.Ns builtinsNs mb
  bt : ∀ x : Str, x ≠ "__name__" → mb x = bootBuiltins x
  nolimit : base.NoLimit
  cget : ∀ c, plainGet K (caddr c) (Str.ofString "") = true
  cdict : ∀ c, hasDictIn K (caddr c) = true
  cset : ∀ c, findIn K (.ref (caddr c)) "__setattr__" = some (some (.builtin "object.__setattr__"))
  cover : ∀ c, plainOver K (caddr c) = true
  cattr : ∀ c, ∀ x ∈ allAttrs, findIn K (.ref (caddr c)) (Str.ofString x) = some none
  cmake : ∀ c, makesIn K (caddr c) = true
section
variable {prog : Program} {w : World} {base : Heap} {caddr : Cls → Addr} {K : Frag} {mg mb : Str → Option Value}
inductive EndW (prog : Program) (w : World) (base : Heap) (caddr : Cls → Addr) {α β : Type} (R : Mu → Heap → β → α → Prop) (Q : β → Hp → Prop) (μ : Mu) (s : Shared) (a : α) (s' : Shared) : Prop
  | mk (h' : Heap) (tk : Nat) (μ' : Mu) (b : β) (H' : Hp) (e : s' = { s with heap := h', toks := tk }) (C : Core prog w base caddr μ' H' h') (E : Ext μ s.heap μ' h') (r : R μ' h' b a) (q : Q b H')
noncomputable def Wp (prog : Program) (w : World) (base : Heap) (caddr : Cls → Addr) {α β : Type} (A : Around) (t : Sem α) (R : Mu → Heap → β → α → Prop) (Q : β → Hp → Prop) (μ : Mu) (s : Shared) : Prop :=
  wpAny (model prog w) A t (EndW prog w base caddr R Q μ s) (fun _ _ => False) s
variable {α β γ δ : Type} {A : Around} {R : Mu → Heap → β → α → Prop} {Q : β → Hp → Prop} {μ μ' : Mu} {s s' : Shared} {H : Hp} {a : α} {b : β} {t : Sem α}
@[elab_as_elim] theorem EndW.el {P : Shared → Prop} (z : EndW prog w base caddr R Q μ s a s') (k : ∀ h' tk μ' b H', Core prog w base caddr μ' H' h' → Ext μ s.heap μ' h' → R μ' h' b a → Q b H' → P { s with heap := h', toks := tk }) : P s' := by
  cases z with
  | mk h' tk μ' b H' e C E r q => subst e; exact k h' tk μ' b H' C E r q
noncomputable def Over (prog : Program) (w : World) (base : Heap) (caddr : Cls → Addr) (μ : Mu) (s : Shared) (μ' : Mu) (s' : Shared) : Prop :=
  ∀ {γ δ : Type} (R' : Mu → Heap → δ → γ → Prop) (Q' : δ → Hp → Prop) c s₂, EndW prog w base caddr R' Q' μ' s' c s₂ → EndW prog w base caddr R' Q' μ s c s₂
theorem Over.of {h' : Heap} {tk : Nat} (e : Ext μ s.heap μ' h') : Over prog w base caddr μ s μ' { s with heap := h', toks := tk } := fun _ _ _ _ z =>
  z.el fun h₂ tk₂ μ₂ b₂ H₂ c₂ e₂ r₂ q₂ => .mk h₂ tk₂ μ₂ b₂ H₂ rfl c₂ (e.trans e₂) r₂ q₂
theorem Wp.nest {P : α → Shared → Prop} (h : Wp prog w base caddr A t R Q μ s)
    (hk : ∀ a s' μ' b H', Core prog w base caddr μ' H' s'.heap → Ext μ s.heap μ' s'.heap → R μ' s'.heap b a → Q b H' → Over prog w base caddr μ s μ' s' → P a s') :
    wpAny (model prog w) A t P (fun _ _ => False) s :=
  wpAny_mono h (fun a s' z => z.el fun h' tk μ' b H' c e r q => hk a _ μ' b H' c e r q (Over.of e)) fun _ _ x => x
theorem Wp.nestS {P : α → Shared → Prop} (h : Wp prog w base caddr A t R Q μ s)
    (hk : ∀ a h' tk μ' b H', Core prog w base caddr μ' H' h' → Ext μ s.heap μ' h' → R μ' h' b a → Q b H' → P a { s with heap := h', toks := tk }) :
    wpAny (model prog w) A t P (fun _ _ => False) s :=
  wpAny_mono h (fun a s' z => z.el fun h' tk μ' b H' c e r q => hk a h' tk μ' b H' c e r q) fun _ _ x => x
theorem Wp.lift {μ₀ : Mu} {s₀ : Shared} (h : Wp prog w base caddr A t R Q μ s) (l : Over prog w base caddr μ₀ s₀ μ s) : wpAny (model prog w) A t (EndW prog w base caddr R Q μ₀ s₀) (fun _ _ => False) s :=
  wpAny_mono h (fun c s₂ z => l R Q c s₂ z) fun _ _ x => x
theorem Over.trans {μ₀ : Mu} {s₀ : Shared} (l : Over prog w base caddr μ₀ s₀ μ s) (l2 : Over prog w base caddr μ s μ' s') : Over prog w base caddr μ₀ s₀ μ' s' := fun R Q c s₂ z => l R Q c s₂ (l2 R Q c s₂ z)
theorem Wp.bind {k : α → Sem γ} {R' : Mu → Heap → δ → γ → Prop} {Q' : δ → Hp → Prop} (h : Wp prog w base caddr A t R Q μ s)
    (hk : ∀ a s' μ' b H', Core prog w base caddr μ' H' s'.heap → Ext μ s.heap μ' s'.heap → R μ' s'.heap b a → Q b H' → Wp prog w base caddr A (k a) R' Q' μ' s') : Wp prog w base caddr A (t >>= k) R' Q' μ s :=
  wpAny_bind (h.nest fun a s' μ' b H' c e r q l => (hk a s' μ' b H' c e r q).lift l)
theorem Wp.pure (C : Core prog w base caddr μ H s.heap) (r : R μ s.heap b a) (q : Q b H) : Wp prog w base caddr A (Pure.pure a) R Q μ s :=
  wpAny_pure (.mk s.heap s.toks μ b H rfl C (Ext.refl _ _) r q)
theorem Wp.holding {vs : List Value} (h : Wp prog w base caddr A t R Q μ s) : Wp prog w base caddr A (PySem.holding vs t) R Q μ s := wpAny_holding h
theorem Wp.here (C : Core prog w base caddr μ H s.heap) (r : R μ s.heap b a) (q : Q b H) : EndW prog w base caddr R Q μ s a s := .mk s.heap s.toks μ b H rfl C (Ext.refl _ _) r q
theorem Wp.hereT {tk : Nat} (C : Core prog w base caddr μ H s.heap) (r : R μ s.heap b a) (q : Q b H) : EndW prog w base caddr R Q μ s a { s with toks := tk } := .mk s.heap tk μ b H rfl C (Ext.refl _ _) r q
theorem handed_of {Z : V} {v : Value} {h : Heap} (r : VRel μ h Z v) : handedIn v = true := by
  cases Z with
  | none => obtain rfl : v = .none := r; rfl
  | bool b => obtain rfl : v = .bool b := r; rfl
  | int i => exact r.iel fun _ => rfl
  | str x => obtain ⟨t, rfl⟩ := r; rfl
  | tup vs => exact r.tel fun _ _ _ _ _ => rfl
  | obj i => exact r.oel fun _ _ => rfl
theorem Stat.plain (S : Stat K base mg mb caddr) (c : Cls) (x : Str) : plainGet K (caddr c) x = true := S.cget c
theorem key_isStr {e : DictEntry} {y x : String} {tk : Tok} (hk : e.key = .str (Str.ofString y) tk) : e.key.isStr (Str.ofString x) = decide (y = x) := by rw [hk]; exact ofString_beq y x
theorem FRel.find {h : Heap} {fs : List (String × V)} {es : List DictEntry} {x : String} {u : V} (r : FRel μ h fs es) (hl : fs.lookup x = some u) : ∃ e, es.find? (·.key.isStr (Str.ofString x)) = some e ∧ VRel μ h u e.val := by
  induction fs generalizing es with
  | nil => cases hl
  | cons p fs ih =>
    refine r.el fun e t tk hk a b => lookup_el hl (fun h1 h2 => ⟨e, ?_, h2 ▸ a⟩) fun h1 h2 => ?_
    · exact List.find?_cons_of_pos ((key_isStr hk).trans (decide_eq_true h1.symm))
    · rw [List.find?_cons_of_neg (p := fun e : DictEntry => e.key.isStr (Str.ofString x)) fun z => h1 (of_decide_eq_true ((key_isStr hk).symm.trans z)).symm]
      exact ih b h2
theorem FRel.getL {h : Heap} {fs : List (String × V)} {es : List DictEntry} {x : String} {u : V} (r : FRel μ h fs es) (hl : fs.lookup x = some u) : ∃ v, getL (Str.ofString x) es = some (some v) ∧ VRel μ h u v := by
  obtain ⟨e, h1, h2⟩ := r.find hl
  exact ⟨e.val, by unfold PySem.W.getL; rw [h1], h2⟩
theorem InstAt.mk' {h : Heap} {a d : Addr} {C : Addr} {es : List DictEntry} {n : Nat} (h1 : h.get? a = some (instObj C d)) (h2 : h.get? d = some (dictOf es n)) : PySem.W.InstAt h a (instObj C d) C (some (dictOf es n)) := ⟨h1, rfl, rfl, h2⟩
theorem wp_getAttr (S : Stat K base mg mb caddr) (C : Core prog w base caddr μ H s.heap) {Z u : V} {v : Value} {x : String} {b : Bool} {Q : V → Hp → Prop} (rv : VRel μ s.heap Z v) (hu : attrOf H Z x = some u) (hx : x ∈ allAttrs)
    (q : Q u H) : Wp prog w base caddr A (getAttr v (Str.ofString x) b) VRel Q μ s := by
  refine attrOf_el hu fun i c fs hZ hi hl => ?_
  subst hZ
  refine rv.oel fun a m => C.instM hi m fun d es n m2 ha hd f => ?_
  obtain ⟨v, g1, g2⟩ := f.getL hl
  exact get_value (S.X.keeps C.bas) (InstAt.mk' ha hd) (plainGet_of (S.plain c (Str.ofString x))).1 (findObj_own (S.cdict c) (S.cattr c x hx) rfl g1) (handed_of g2) (Wp.hereT C g2 q)
theorem FRel.put {h h' : Heap} {μ' : Mu} (x : Ext μ h μ' h') {fs : List (String × V)} {es : List DictEntry} {y : String} {Z : V} {v : Value} {hs : Int} {k : Tok} (r : FRel μ h fs es) (rv : VRel μ' h' Z v) :
    FRel μ' h' (putF fs y Z) (putL (Str.ofString y) hs (.str (Str.ofString y) k) v es) := by
  induction fs generalizing es with
  | nil => exact r.nel (FRel.cons (p := (y, Z)) (tk := k) rfl rv (rfl : _ = _))
  | cons p fs ih =>
    refine r.el fun e t tk hk a b => ?_
    show FRel μ' h' (if p.1 = y then (y, Z) :: fs else p :: putF fs y Z) (if e.key.isStr (Str.ofString y) then ⟨e.hash, e.key, v⟩ :: t else e :: putL (Str.ofString y) hs (.str (Str.ofString y) k) v t)
    rw [key_isStr hk]
    by_cases q : p.1 = y
    · rw [if_pos q, if_pos (decide_eq_true q)]; exact FRel.cons (p := (y, Z)) (tk := tk) (q ▸ hk) rv (b.ext x)
    · rw [if_neg q, if_neg fun z => q (of_decide_eq_true z)]; exact FRel.cons hk (a.ext x) (ih b)
theorem FRel.noRef {h : Heap} {fs : List (String × V)} {es : List DictEntry} (r : FRel μ h fs es) : es.any (·.refKey) = false := by
  induction fs generalizing es with
  | nil => exact r.nel rfl
  | cons p fs ih =>
    refine r.el fun e t tk hk a b => ?_
    have hr : e.refKey = false := by unfold DictEntry.refKey; rw [hk]
    rw [List.any_cons, hr, ih b]; rfl
theorem set_raw {E : Value → Shared → Prop} {C x d : Addr} {es : List DictEntry} {n : Nat} {name : Str} {v : Value} {Q : Unit → Shared → Prop} (X : K.In s.heap) (hx : s.heap.get? x = some (instObj C d)) (hdd : s.heap.get? d = some (dictOf es n))
    (hs : findIn K (.ref C) "__setattr__" = some (some (.builtin "object.__setattr__"))) (hp : plainOver K C = true) (ht : takerIn K C name = some none) (hh : hasDictIn K C = true) (hl : es.any (·.refKey) = false)
    (hz : (putL name (PyData.keyHash w.params name) (.str name (s.toks + 1)) v es).length ≤ 1000)
    (h : Q () { s with heap := s.heap.update d (Obj.putName name (PyData.keyHash w.params name) (.str name (s.toks + 1)) v), toks := s.toks + 2 }) :
    wpAny (model prog w) A (setAttr (.ref x) name v) Q E s := by
  have I := InstAt.mk' hx hdd
  refine set_plain X I hs ?_
  refine osa_open (s := { s with toks := s.toks + 1 }) X I hp ht fun b => ?_
  obtain ⟨cd, hc, hd'⟩ := any_some hh
  have D' : (s.heap.update d (Obj.putName name (PyData.keyHash w.params name) (.str name (s.toks + 1)) v)).get? d = some (dictOf (putL name (PyData.keyHash w.params name) (.str name (s.toks + 1)) v es) (putN name es n)) := by
    rw [Heap.get?_update_self _ hdd (by rw [putName_dict]; rfl), putName_dict]
  refine wpAny_bind (wpAny_pure (wpAny_bind (wpAny_bind (wpAny_loadPart hx (wpAny_bind (Looks.here (s := { s with toks := s.toks + 1 }) (looks_clsIn (M := model prog w) X hc) ?_))))))
  rw [hd']
  refine wpAny_pure (a := some d) (wpAny_bind (wpAny_pure (wpAny_bind ?_)))
  unfold nsSet
  refine wpAny_bind (wpAny_bind (wpAny_askSetting (wpAny_pure (wpAny_bind (wpAny_mkText (wpAny_bind (wpAny_loadPart hdd ?_)))))))
  dsimp only
  have c : (!es.toArray.any (·.key.isStr name) && es.toArray.any (·.refKey)) = false := by
    have e2 : es.toArray.any (·.refKey) = false := by rw [List.any_toArray]; exact hl
    rw [e2, Bool.and_false]
  rw [aRefKeyMayBeTheName_at, c]
  refine wpAny_updatePart hdd ?_
  refine wpAny_bind (wpAny_lookBehind D' (pastItsLine_dict (by rw [List.size_toArray, sizeLine_eq]; lia)) ?_)
  exact wpAny_pure h
theorem wp_setAttr (S : Stat K base mg mb caddr) (C : Core prog w base caddr μ H s.heap) {Z u : V} {v vu : Value} {x : String} {H' : Hp} {Q : Unit → Hp → Prop} (rv : VRel μ s.heap Z v) (ru : VRel μ s.heap u vu) (hu : putAttr H Z x u = some H')
    (hx : x ∈ allAttrs) (q : Q () H') : Wp prog w base caddr A (setAttr v (Str.ofString x) vu) (fun _ _ _ _ => True) Q μ s := by
  refine putAttr_el hu fun i c fs hZ hi hlen hH => ?_
  subst hZ hH
  refine rv.oel fun a m1 => C.instM hi m1 fun d es n m2 ha hd f => ?_
  have had : a ≠ d := fun e => Bool.noConfusion (C.inj _ _ _ _ _ m1 (e ▸ m2)).2
  have hfp := FRel.put (Ext.refl μ s.heap) (y := x) (hs := PyData.keyHash w.params (Str.ofString x)) (k := s.toks + 1) f ru
  refine set_raw (S.X.keeps C.bas) ha hd (S.cset c) (S.cover c) (by unfold takerIn; rw [S.cattr c x hx]; rfl) (S.cdict c) f.noRef (by rw [hfp.length]; exact Nat.le_trans hlen (by decide)) ?_
  have at_ : (s.heap.update d (Obj.putName (Str.ofString x) (PyData.keyHash w.params (Str.ofString x)) (.str (Str.ofString x) (s.toks + 1)) vu)).get? d = _ := (Heap.get?_update_self _ hd (by rw [putName_dict]; rfl)).trans (congrArg some (putName_dict ..))
  obtain ⟨C', E'⟩ := C.change (i := i) (o' := .inst c (putF fs x u)) m2 (fun b ob e nb => (Heap.get?_update_other _ _ (Ne.symm nb)).trans e) ⟨_, at_⟩
    fun E => .inst m1 m2 ((Heap.get?_update_other _ _ (Ne.symm had)).trans ha) at_ (FRel.put E f (ru.ext E)) hlen
  exact .mk _ _ μ () _ rfl C' E' trivial q
end
end Mine
end
noncomputable section
open PySem PySem.W PyProof.Rows
set_option maxRecDepth 100000
namespace Mine
section
variable {prog : Program} {w : World} {base : Heap} {caddr : Cls → Addr} {K : Frag} {mg mb : Str → Option Value}
variable {A : Around} {E : Value → Shared → Prop} {μ : Mu} {s : Shared} {H : Hp} {d : Addr} {ep : Nat} {kvs : List (Int × Value)} {k : Int} {key v : Value}
theorem int_is {i : Int} {t : Tok} : (knd prog w).is i (.int i t) = true := intKind_is prog w i t
theorem set_at {Q : Unit → Shared → Prop} (hkey : (knd prog w).is k key = true) (hm : s.heap.DictAt (knd prog w) d kvs ep) (hsz : kvs.length ≤ sizeLine)
    (hQ : ∀ h', h'.DictAt (knd prog w) d (stored kvs k v) (if kvs.any (fun kv => decide (kv.1 = k)) then ep else ep + 1) → Heap.SameBut d s.heap h' → Q () { s with heap := h', toks := s.toks + 1 }) :
    wpAny (model prog w) A (dictSet d key v) Q E s := by
  obtain ⟨o, es, ho, hc, hd, hk, hp, hn⟩ := hm
  have hl : es.toList.length = kvs.length := hp.length
  have hes : es.size ≤ sizeLine := by rw [← Array.length_toList, hl]; exact hsz
  have hidx : (es.findIdx? fun e => (knd prog w).is k e.key) = kvs.findIdx? fun kv => decide (kv.1 = k) := by
    rw [← hp.findIdx k]; obtain ⟨l⟩ := es; simp
  unfold dictSet
  refine wpAny_holding (wpAny_bind ((knd prog w).pyHash hkey ?_))
  unfold dictSetHashed
  refine wpAny_holding (wpAny_bind (wpAny_dictFind_of (s := { s with toks := s.toks + 1 }) hkey ho hd hk ?_))
  cases hi : es.findIdx? fun e => (knd prog w).is k e.key with
  | some i =>
    have hany := any_of_findIdx_some (hidx ▸ hi)
    rw [if_pos hany] at hQ
    refine wpAny_bind (wpAny_rule (wpAny_bind (wpAny_updateDict (s := { s with toks := s.toks + 1 }) ho hd (wpAny_point (hQ _ ⟨_, _, Heap.get?_update_self _ ho (Obj.isFreed_of_dict (Obj.data_mapDict hd _)),
      hc.mapDict _, Obj.data_mapDict hd _, hk.modify _ _, ?_, ?_⟩ (Heap.SameBut.update ..))))))
    · rw [stored, if_pos hany]
      have h1 : (es.toList.findIdx? fun e => (knd prog w).is k e.key) = some i := by rw [← hi]; obtain ⟨l⟩ := es; simp
      have := hp.modify hn h1 v
      obtain ⟨l⟩ := es
      simpa using this
    · rw [stored, if_pos hany, keys_map_store]; exact hn
  | none =>
    have hnot : k ∉ kvs.map (·.1) := not_mem_of_findIdx_none (hidx ▸ hi)
    have hany : ¬ (kvs.any fun kv => decide (kv.1 = k)) = true := by
      intro q
      obtain ⟨kv, hkv, he⟩ := List.any_eq_true.mp q
      exact hnot (List.mem_map.mpr ⟨kv, hkv, of_decide_eq_true he⟩)
    rw [if_neg hany] at hQ
    refine wpAny_bind (wpAny_rule (wpAny_updateDictKeys (hz := hes) (s := { s with toks := s.toks + 1 }) ho hd (hQ _ ⟨_, _, Heap.get?_update_self _ ho (Obj.isFreed_of_dict (Obj.data_mapDictKeys hd _)),
      hc.mapDictKeys _, Obj.data_mapDictKeys hd _, hk.push hkey _, ?_, ?_⟩ (Heap.SameBut.update ..))))
    · rw [stored, if_neg hany]
      have := hp.append hkey ((knd prog w).hash k) v
      obtain ⟨l⟩ := es
      simpa using this
    · rw [stored, if_neg hany, List.map_append]
      exact List.nodup_append.mpr ⟨hn, by simp, fun a ha b hb e => by
        simp only [List.map_cons, List.map_nil, List.mem_singleton] at hb
        exact hnot (hb ▸ e ▸ ha)⟩
theorem setItem_at {t : Tok} {Q : Unit → Shared → Prop} (hm : s.heap.DictAt (knd prog w) d kvs ep) (hsz : kvs.length ≤ sizeLine)
    (hQ : ∀ h', h'.DictAt (knd prog w) d (stored kvs k v) (if kvs.any (fun kv => decide (kv.1 = k)) then ep else ep + 1) → Heap.SameBut d s.heap h' → Q () { s with heap := h', toks := s.toks + 1 }) :
    wpAny (model prog w) A (setItem (.ref d) (.int k t) v) Q E s := by
  have T := hm.dictOf.typeIs
  unfold setItem
  refine wpAny_holding (wpAny_bind (wpAny_sequenceKey T (by decide) ?_))
  refine wpAny_bind (wpAny_callSpecial?_slot (name := Str.ofString "__setitem__") T slot_dict_setitem
    (wpAny_call_entry slot_dict_setitem T entry_dict_setitem ?_ (args_dict_setitem _ _ _)))
  show wpAny _ _ (Builtin.Dict.notOrdered "__setitem__" ⟨[.ref d, .int k t, v], []⟩ >>= _) _ _ s
  refine wpAny_bind (wpAny_notOrdered_dict T ?_)
  show wpAny _ _ (dictSet d (.int k t) v >>= _) _ _ s
  exact wpAny_bind (set_at int_is hm hsz fun h' hm' hs' => wpAny_pure ⟨.none, rfl, wpAny_pure (hQ h' hm' hs')⟩)
theorem take_at {Q : Option DictEntry → Shared → Prop} (hkey : (knd prog w).is k key = true) (hm : s.heap.DictAt (knd prog w) d kvs ep) (hsz : kvs.length ≤ sizeLine) {v : Value} (hv : valueAt kvs k = some v)
    (hQ : ∀ e h', e.val = v → h'.DictAt (knd prog w) d (without kvs k) (ep + 1) → Heap.SameBut d s.heap h' → Q (some e) { s with heap := h', toks := s.toks + 1 }) :
    wpAny (model prog w) A (Builtin.Dict.takeOut d key) Q E s := by
  obtain ⟨o, es, ho, hc, hd, hk, hp, hn⟩ := hm
  have hl : es.toList.length = kvs.length := hp.length
  have hes : es.size ≤ sizeLine := by rw [← Array.length_toList, hl]; exact hsz
  unfold Builtin.Dict.takeOut
  refine wpAny_holding (wpAny_bind ((knd prog w).pyHash hkey ?_))
  refine wpAny_bind (wpAny_dictFind_of (s := { s with toks := s.toks + 1 }) hkey ho hd hk ?_)
  cases hi : es.findIdx? fun e => (knd prog w).is k e.key with
  | none =>
    exfalso
    have h1 := hp.find k
    rw [hv] at h1
    have : (es.toList.find? fun e => (knd prog w).is k e.key) = none := by
      refine List.find?_eq_none.mpr fun e he => ?_
      have := Array.findIdx?_eq_none_iff.mp hi e (Array.mem_toList_iff.mp he)
      simpa using this
    rw [this] at h1; cases h1
  | some i =>
    have h1 : (es.toList.findIdx? fun e => (knd prog w).is k e.key) = some i := by rw [← hi]; obtain ⟨l⟩ := es; simp
    obtain ⟨e, he, hek, hev⟩ := hp.at h1
    have he' : es[i]? = some e := by rw [← he]; obtain ⟨l⟩ := es; simp
    refine wpAny_bind (wpAny_dictEntries (s := { s with toks := s.toks + 1 }) ho hd ?_)
    rw [he']
    refine wpAny_bind (wpAny_updateDictKeys (hz := hes) (s := { s with toks := s.toks + 1 }) ho hd (wpAny_pure (hQ e _ (by rw [hv] at hev; exact (Option.some.inj hev).symm) ⟨_, _, Heap.get?_update_self _ ho (Obj.isFreed_of_dict (Obj.data_mapDictKeys hd _)),
      hc.mapDictKeys _, Obj.data_mapDictKeys hd _, hk.erase _, ?_, nodup_without hn k⟩ (Heap.SameBut.update ..))))
    have := hp.erase hn h1
    obtain ⟨l⟩ := es
    simpa using this
theorem delItem_at {t : Tok} {Q : Unit → Shared → Prop} (hm : s.heap.DictAt (knd prog w) d kvs ep) (hsz : kvs.length ≤ sizeLine) {v : Value} (hv : valueAt kvs k = some v)
    (hQ : ∀ h', h'.DictAt (knd prog w) d (without kvs k) (ep + 1) → Heap.SameBut d s.heap h' → Q () { s with heap := h', toks := s.toks + 1 }) :
    wpAny (model prog w) A (delItem (.ref d) (.int k t)) Q E s := by
  have T := hm.dictOf.typeIs
  refine wpAny_delItem_slot T (by decide) PySem.F.slot_dict_delitem ?_
  refine wpAny_call_entry PySem.F.slot_dict_delitem T PySem.F.entry_dict_delitem ?_ (PySem.F.args_dict_delitem_2 _ _)
  unfold Builtin.«dict.__delitem__»
  refine wpAny_bind ?_
  unfold Builtin.Dict.dictSlotArgs
  refine wpAny_bind (wpAny_notOrdered_dict T ?_)
  show wpAny _ _ (pure (Value.ref d, Value.int k t)) _ _ s
  refine wpAny_pure ?_
  show wpAny _ _ (Builtin.Dict.takeOut d (.int k t) >>= _) _ _ s
  refine wpAny_bind (take_at int_is hm hsz hv fun e h' _ hm' hs' => ?_)
  exact wpAny_bind (wpAny_letGo (wpAny_pure ⟨.none, rfl, hQ h' hm' hs'⟩))
theorem pop_at {t : Tok} {Q : Value → Shared → Prop} (hm : s.heap.DictAt (knd prog w) d kvs ep) (hsz : kvs.length ≤ sizeLine) {v : Value} (hv : valueAt kvs k = some v)
    (hQ : ∀ h', h'.DictAt (knd prog w) d (without kvs k) (ep + 1) → Heap.SameBut d s.heap h' → Q v { s with heap := h', toks := s.toks + 1 }) :
    wpAny (model prog w) A (call (.builtin "dict.pop") [.ref d, .int k t]) Q E s := by
  have T := hm.dictOf.typeIs
  refine wpAny_call_entry PySem.F.slot_dict_pop T PySem.F.entry_dict_pop ?_ (PySem.F.args_dict_pop_2 _ _)
  unfold Builtin.«dict.pop»
  refine wpAny_bind ?_
  unfold Builtin.Dict.keyAndDefault
  refine wpAny_bind (wpAny_notOrdered_dict T ?_)
  show wpAny _ _ (pure (d, Value.int k t, none)) _ _ s
  refine wpAny_pure ?_
  have hpart : (keyPart (.int k t)).isSome = true := rfl
  simp only [hpart, if_true]
  refine wpAny_bind (wpAny_pure ?_)
  simp only [Bool.false_eq_true, if_false]
  refine wpAny_bind (take_at int_is hm hsz hv fun e h' he hm' hs' => ?_)
  simp only [Option.isNone_some, Bool.false_eq_true, if_false]
  exact wpAny_bind (wpAny_letGo (wpAny_pure ⟨e.val, rfl, he ▸ hQ h' hm' hs'⟩))
end
end Mine
end
noncomputable section
open PySem PySem.W PyProof.Rows
set_option maxRecDepth 100000
namespace Mine
section
variable {prog : Program} {w : World} {base : Heap} {caddr : Cls → Addr} {K : Frag} {mg mb : Str → Option Value}
variable {A : Around} {E : Value → Shared → Prop} {μ μ' : Mu} {s : Shared} {h h' : Heap} {H : Hp} {d : Addr} {ep : Nat} {k : Int}
theorem PRel.keys {es : List (Int × V)} {kvs : List (Int × Value)} (x : PRel μ h es kvs) : kvs.map (·.1) = es.map (·.1) := by
  induction es generalizing kvs with
  | nil => exact x.nel rfl
  | cons p es ih => exact x.el fun v t a b => congrArg (p.1 :: ·) (ih b)
theorem PRel.vals {es : List (Int × V)} {kvs : List (Int × Value)} (x : PRel μ h es kvs) : VRels μ h (es.map (·.2)) (kvs.map (·.2)) := by
  induction es generalizing kvs with
  | nil => exact x.nel VRels.nil
  | cons p es ih => exact x.el fun v t a b => VRels.cons a (ih b)
theorem PRel.length {es : List (Int × V)} {kvs : List (Int × Value)} (x : PRel μ h es kvs) : kvs.length = es.length := by
  have := congrArg List.length x.keys
  rwa [List.length_map, List.length_map] at this
theorem valueAt_pos {p : Int × Value} {t : List (Int × Value)} (q : p.1 = k) : valueAt (p :: t) k = some p.2 := congrArg (Option.map _) (List.find?_cons_of_pos (p := fun kv : Int × Value => decide (kv.1 = k)) (decide_eq_true q))
theorem valueAt_neg {p : Int × Value} {t : List (Int × Value)} (q : p.1 ≠ k) : valueAt (p :: t) k = valueAt t k := congrArg (Option.map _) (List.find?_cons_of_neg (p := fun kv : Int × Value => decide (kv.1 = k)) fun z => q (of_decide_eq_true z))
theorem getK_pos {p : Int × V} {t : List (Int × V)} (q : p.1 = k) : getK (p :: t) k = some p.2 := congrArg (Option.map _) (List.find?_cons_of_pos (p := fun p : Int × V => p.1 == k) (beq_iff_eq.mpr q))
theorem getK_neg {p : Int × V} {t : List (Int × V)} (q : p.1 ≠ k) : getK (p :: t) k = getK t k := congrArg (Option.map _) (List.find?_cons_of_neg (p := fun p : Int × V => p.1 == k) fun z => q (beq_iff_eq.mp z))
theorem PRel.get {es : List (Int × V)} {kvs : List (Int × Value)} (x : PRel μ h es kvs) : (getK es k = none ∧ valueAt kvs k = none) ∨ ∃ u v, getK es k = some u ∧ valueAt kvs k = some v ∧ VRel μ h u v := by
  induction es generalizing kvs with
  | nil => exact x.nel (.inl ⟨rfl, rfl⟩)
  | cons p es ih =>
    refine x.el fun v t a b => ?_
    by_cases q : p.1 = k
    · exact .inr ⟨p.2, v, getK_pos q, valueAt_pos q, a⟩
    · rw [getK_neg q, valueAt_neg q]; exact ih b
theorem PRel.gel {es : List (Int × V)} {kvs : List (Int × Value)} {u : V} (x : PRel μ h es kvs) (hu : getK es k = some u) {P : Prop} (q : ∀ v, valueAt kvs k = some v → VRel μ h u v → P) : P := by
  rcases x.get (k := k) with ⟨e, _⟩ | ⟨u', v, e1, e2, r⟩
  · rw [hu] at e; cases e
  · rw [hu] at e1; cases e1; exact q v e2 r
theorem PRel.has {es : List (Int × V)} {kvs : List (Int × Value)} (x : PRel μ h es kvs) : kvs.any (fun kv => decide (kv.1 = k)) = hasK es k := by
  induction es generalizing kvs with
  | nil => exact x.nel rfl
  | cons p es ih => exact x.el fun v t a b => congrArg (decide (p.1 = k) || ·) (ih b)
theorem getK_isSome (es : List (Int × V)) : (getK es k).isSome = hasK es k := by
  unfold getK hasK
  rw [Option.isSome_map, Bool.eq_iff_iff, List.any_eq_true, List.find?_isSome]
theorem PRel.isSome {es : List (Int × V)} {kvs : List (Int × Value)} (x : PRel μ h es kvs) : (valueAt kvs k).isSome = hasK es k := by
  rw [← getK_isSome]
  rcases x.get (k := k) with ⟨a, b⟩ | ⟨u, v, a, b, _⟩
  · rw [b, a]; rfl
  · rw [b, a]; rfl
theorem PRel.map {u : V} {v : Value} (x : Ext μ h μ' h') (ru : VRel μ' h' u v) {es : List (Int × V)} {kvs : List (Int × Value)} (r : PRel μ h es kvs) :
    PRel μ' h' (es.map (fun p => if p.1 = k then (p.1, u) else p)) (kvs.map (fun kv => if kv.1 = k then (kv.1, v) else kv)) := by
  induction es generalizing kvs with
  | nil => exact r.nel (rfl : _ = _)
  | cons p es ih =>
    refine r.el fun w t a b => ?_
    rw [List.map_cons, List.map_cons]
    by_cases q : p.1 = k
    · rw [if_pos q, if_pos q]; exact PRel.cons (p := (p.1, u)) ru (ih b)
    · rw [if_neg q, if_neg q]; exact PRel.cons (a.ext x) (ih b)
theorem PRel.snoc {u : V} {v : Value} (x : Ext μ h μ' h') (ru : VRel μ' h' u v) {es : List (Int × V)} {kvs : List (Int × Value)} (r : PRel μ h es kvs) : PRel μ' h' (es ++ [(k, u)]) (kvs ++ [(k, v)]) := by
  induction es generalizing kvs with
  | nil => exact r.nel (PRel.cons (p := (k, u)) (es := []) ru (rfl : _ = _))
  | cons p es ih => exact r.el fun w t a b => PRel.cons (a.ext x) (ih b)
theorem PRel.put {u : V} {v : Value} (x : Ext μ h μ' h') (ru : VRel μ' h' u v) {es : List (Int × V)} {kvs : List (Int × Value)} (r : PRel μ h es kvs) : PRel μ' h' (putK es k u) (stored kvs k v) := by
  unfold putK stored
  rw [r.has]
  by_cases q : hasK es k = true
  · rw [if_pos q, if_pos q]; exact r.map x ru
  · rw [if_neg q, if_neg q]; exact r.snoc x ru
theorem PRel.del {es : List (Int × V)} {kvs : List (Int × Value)} (r : PRel μ h es kvs) : PRel μ h (delK es k) (without kvs k) := by
  induction es generalizing kvs with
  | nil => exact r.nel (rfl : _ = _)
  | cons p es ih =>
    refine r.el fun w t a b => ?_
    have ih := ih b
    unfold delK without at ih ⊢
    by_cases q : p.1 = k
    · rw [List.filter_cons_of_neg (p := fun p : Int × V => decide (p.1 ≠ k)) fun z => absurd q (of_decide_eq_true z), List.filter_cons_of_neg (p := fun p : Int × Value => decide (p.1 ≠ k)) fun z => absurd q (of_decide_eq_true z)]; exact ih
    · rw [List.filter_cons_of_pos (p := fun p : Int × V => decide (p.1 ≠ k)) (decide_eq_true q), List.filter_cons_of_pos (p := fun p : Int × Value => decide (p.1 ≠ k)) (decide_eq_true q)]; exact PRel.cons a ih
theorem LIM_lt : LIM ≤ sizeLine := by rw [sizeLine_eq]; decide
theorem sys_low (S : Stat K base mg mb caddr) (C : Core prog w base caddr μ H h) {i : Id} {t : Bool} {a : Nat} (m : μ i t = some a) : (a == sysModules) = false := by
  have h2 := (C.off _ _ _ m).2.1
  exact beq_eq_false_iff_ne.mpr (Nat.ne_of_gt (Nat.lt_trans (by decide) h2))
theorem seqIndex_of {k : Int} {n : Nat} (h0 : 0 ≤ k) (h1 : k.toNat < n) : seqIndex? k n = some k.toNat := by
  unfold seqIndex?
  rw [if_neg (Int.not_lt.mpr h0)]
  exact if_pos (Bool.and_eq_true_iff.mpr ⟨decide_eq_true h0, decide_eq_true ((Int.toNat_lt h0).mp h1)⟩)
theorem VRels.at {μ : Mu} {h : Heap} {xs : List V} {items : Array Value} {u : V} {k : Int} (r : VRels μ h xs items.toList) (hu : atI xs k = some u) {P : Prop} (q : ∀ x, 0 ≤ k → k < 100000 → k.toNat < items.size → items[k.toNat]? = some x → VRel μ h u x → P) : P :=
  atI_el hu fun h0 h1 e => by
    obtain ⟨x, hx, rx⟩ := r.get e
    rw [Array.getElem?_toList] at hx
    exact q x h0 h1 (Array.getElem?_eq_some_iff.mp hx).1 hx rx
theorem wp_getItem {Z kk u : V} {v vk : Value} {Q : V → Hp → Prop} (C : Core prog w base caddr μ H s.heap) (rv : VRel μ s.heap Z v) (rk : VRel μ s.heap kk vk) (hu : idxOf H Z kk = some u) (q : Q u H) :
    Wp prog w base caddr A (getItem v vk) VRel Q μ s := by
  refine numI_el hu fun k hk hu => ?_
  subst hk
  refine rk.iel fun t => ?_
  cases Z with
  | tup vs => exact rv.tel fun a items T n r => r.at hu fun x h0 h1 hlt hx rx => getItem_tuple (j := k.toNat) T (by lia) (by lia) (seqIndex_of h0 hlt) hx (Wp.here C rx q)
  | obj i =>
    refine rv.oel fun a m => ?_
    have hu : objI (H i) k = some u := hu
    generalize hi : H i = o at hu
    cases o with
    | none => cases hu
    | some o => cases o with
      | list xs => exact C.listM hi m fun items n l r z => r.at hu fun x h0 h1 hlt hx rx => wpAny_getItem_list l.isList h0 (by lia) hx (Wp.here C rx q)
      | dict ep es => exact C.dictM hi m fun kvs D r z => r.gel hu fun x hx rx => wpAny_getItem_of (int_is (prog := prog) (w := w)) D.dictOf.mapOf hx (Wp.hereT C rx q)
      | inst _ _ => cases hu
  | _ => cases hu
theorem wp_setItem {Z kk u : V} {v vk vu : Value} {H' : Hp} {Q : Unit → Hp → Prop} (C : Core prog w base caddr μ H s.heap) (rv : VRel μ s.heap Z v) (rk : VRel μ s.heap kk vk) (ru : VRel μ s.heap u vu) (hu : putIdx H Z kk u = some H') (q : Q () H') :
    Wp prog w base caddr A (setItem v vk vu) (fun _ _ _ _ => True) Q μ s := by
  refine objV_el hu fun i hZ hu => numI_el hu fun k hk hu => dictP_el hu fun ep es hi hu => iteO_el hu fun hlen hH => ?_
  subst hZ hk hH
  refine rk.iel fun t => Core.dictAt rv C hi fun a kvs m D r z => setItem_at D (by rw [r.length]; exact Nat.le_trans z LIM_lt) fun h' D' hs => ?_
  rw [r.has] at D'
  obtain ⟨C', E'⟩ := C.change (i := i) (o' := .dict (if hasK es k then ep else ep + 1) (putK es k u)) (h' := h') m
    (fun b ob e nb => (hs.2 b nb).trans e) (dict_get D') (fun E => .dict m D' (r.put E (ru.ext E)) hlen)
  exact .mk _ _ μ () _ rfl C' E' trivial q
theorem wp_delItem {Z kk : V} {v vk : Value} {H' : Hp} {Q : Unit → Hp → Prop} (C : Core prog w base caddr μ H s.heap) (rv : VRel μ s.heap Z v) (rk : VRel μ s.heap kk vk) (hu : delIdxH H Z kk = some H') (q : Q () H') :
    Wp prog w base caddr A (delItem v vk) (fun _ _ _ _ => True) Q μ s := by
  refine objV_el hu fun i hZ hu => numI_el hu fun k hk hu => dictP_el hu fun ep es hi hu => iteO_el hu fun hhas hH => ?_
  subst hZ hk hH
  refine rk.iel fun t => Core.dictAt rv C hi fun a kvs m D r z => ?_
  obtain ⟨x, hx⟩ := Option.isSome_iff_exists.mp ((r.isSome (k := k)).trans hhas)
  refine delItem_at D (by rw [r.length]; exact Nat.le_trans z LIM_lt) hx fun h' D' hs => ?_
  obtain ⟨C', E'⟩ := C.change (i := i) (o' := .dict (ep + 1) (delK es k)) (h' := h') m
    (fun b ob e nb => (hs.2 b nb).trans e) (dict_get D') (fun E => .dict m D' (r.del.ext E) (Nat.le_trans (List.length_filter_le _ _) z))
  exact .mk _ _ μ () _ rfl C' E' trivial q
end
end Mine
end
noncomputable section
open PySem PySem.W PyProof.Rows
set_option maxRecDepth 100000
namespace Mine
section
variable {prog : Program} {w : World} {base : Heap} {caddr : Cls → Addr} {K : Frag} {mg mb : Str → Option Value}
variable {A : Around} {E : Value → Shared → Prop} {μ μ' : Mu} {s : Shared} {h h' : Heap} {H : Hp} {d : Addr} {ep : Nat} {k : Int}
theorem IsL_size {h : Heap} {items : Array Value} {xs : List V} (r : VRels μ h xs items.toList) : items.size = xs.length := Array.length_toList.symm.trans r.length
theorem IsL_le {h : Heap} {items : Array Value} {xs : List V} (r : VRels μ h xs items.toList) (z : xs.length ≤ LIM) : items.size ≤ sizeLine := IsL_size r ▸ Nat.le_trans z LIM_lt
theorem Core.setList (C : Core prog w base caddr μ H s.heap) {i : Id} {a : Nat} {xs' : List V} {items : Array Value} {n : Nat} {f : Array Value → Array Value} (m : μ i false = some a) (l : IsL s.heap a items n)
    (r : VRels μ s.heap xs' (f items).toList) (z : xs'.length ≤ LIM) :
    Core prog w base caddr μ (H.set i (.list xs')) (s.heap.update a (Obj.mapSeq f)) ∧ Ext μ s.heap μ (s.heap.update a (Obj.mapSeq f)) :=
  C.change m (fun b ob e nb => (Heap.get?_update_other _ _ (Ne.symm nb)).trans e) ⟨_, l.update f⟩ fun E => .list m (l.update f) (r.ext E) z
theorem Core.setEnd {R : Mu → Heap → V → Value → Prop} {Q : V → Hp → Prop} {b : V} {v : Value} (C : Core prog w base caddr μ H s.heap) {i : Id} {a : Nat} {xs' : List V} {items : Array Value} {n : Nat} {f : Array Value → Array Value} (m : μ i false = some a) (l : IsL s.heap a items n)
    (r : VRels μ s.heap xs' (f items).toList) (z : xs'.length ≤ LIM) (rv : ∀ h', Ext μ s.heap μ h' → R μ h' b v) (q : Q b (H.set i (.list xs'))) : EndW prog w base caddr R Q μ s v { s with heap := s.heap.update a (Obj.mapSeq f) } :=
  .mk _ s.toks μ b _ rfl (C.setList m l r z).1 (C.setList m l r z).2 (rv _ (C.setList m l r z).2) q
theorem intsOf_rel {h : Heap} {xs : List V} {vs : List Value} {ns : List Int} (r : VRels μ h xs vs) (e : intsOf xs = some ns) : xs = ns.map V.int ∧ IntsAre vs ns := by
  induction xs generalizing vs ns with
  | nil => cases e; exact r.nel ⟨rfl, .nil⟩
  | cons x xs ih =>
    cases x with
    | int i =>
      obtain ⟨l, hl, rfl⟩ := Option.map_eq_some_iff.mp (show (intsOf xs).map (i :: ·) = some ns from e)
      exact r.el fun v vs a b => a.iel fun t => ⟨congrArg (V.int i :: ·) (ih b hl).1, .cons i t (ih b hl).2⟩
    | _ => cases e
theorem intsOf_map (ns : List Int) : intsOf (ns.map V.int) = some ns := by
  induction ns with
  | nil => rfl
  | cons n r ih => exact congrArg (Option.map (n :: ·)) ih
theorem VRels.ofInts {h : Heap} {vs : List Value} {ns : List Int} (e : IntsAre vs ns) : VRels μ h (ns.map V.int) vs := by
  induction e with
  | nil => exact VRels.nil
  | cons i t _ ih => exact VRels.cons VRel.i ih
theorem ints_find {k : Int} {vs : List Value} {ns : List Int} (r : IntsAre vs ns) (h : k ∈ ns) : ∃ j, ∃ hj : j < vs.length, isInt k vs[j] = true ∧ (∀ m (hm : m < vs.length), m < j → isInt k vs[m] = false) ∧ IntsAre (vs.eraseIdx j) (ns.erase k) := by
  induction r with
  | nil => cases h
  | @cons n t vs ns r ih =>
    by_cases q : n = k
    · subst q
      exact ⟨0, Nat.succ_pos _, beq_self_eq_true n, fun m _ hm => absurd hm (Nat.not_lt_zero _), by rw [List.erase_cons_head]; exact r⟩
    · obtain ⟨j, hj, h1, h2, h3⟩ := ih ((List.mem_cons.mp h).resolve_left fun e => q e.symm)
      refine ⟨j + 1, Nat.succ_lt_succ hj, h1, fun m hm hlt => ?_, ?_⟩
      · cases m with
        | zero => exact beq_eq_false_iff_ne.mpr q
        | succ m => exact h2 m (Nat.lt_of_succ_lt_succ hm) (Nat.lt_of_succ_lt_succ hlt)
      · rw [List.erase_cons_tail fun z => q (beq_iff_eq.mp z)]; exact .cons n t h3
theorem toList_erase (items : Array Value) (j : Nat) : (items.eraseIdxIfInBounds j).toList = items.toList.eraseIdx j := by
  obtain ⟨li⟩ := items; rw [List.eraseIdxIfInBounds_toArray]
theorem eraseIdx_last {α : Type} : ∀ (l : List α), l.eraseIdx (l.length - 1) = l.take (l.length - 1)
  | [] => rfl
  | [a] => rfl
  | a :: b :: r => congrArg (a :: ·) (eraseIdx_last (b :: r))
theorem wp_methL (C : Core prog w base caddr μ H s.heap) {i : Id} {a : Nat} {m : Mth} {args : List V} {vs : List Value} {Q : V → Hp → Prop} (ma : μ i false = some a) (rs : VRels μ s.heap args vs) (q : methL m i args Q H) :
    Wp prog w base caddr A (call (.builtin ("list." ++ m.s)) (.ref a :: vs)) VRel Q μ s := by
  obtain ⟨xs, hi, q⟩ := q
  refine C.listM hi ma fun items n l r z => ?_
  have hsz := IsL_le r z
  cases m with
  | append =>
    obtain ⟨x, rfl, h1, q⟩ := q
    refine rs.el fun v _ rv rs => rs.nel ?_
    refine call_meets PySem.F.slot_list_append ⟨_, l, rfl⟩ PySem.F.entry_list_append (PySem.F.args_list_append_2 _ _) (list_append a items n v hsz) ⟨l, ?_⟩
    exact C.setEnd (f := fun x => x.push v) ma l (xs' := xs ++ [x]) (by rw [Array.toList_push]; exact r.append (VRels.cons rv VRels.nil)) (by rw [List.length_append]; exact h1) (fun _ _ => VRel.n) q
  | extend =>
    obtain ⟨j, ys, rfl, hj, h1, q⟩ := q
    refine rs.el fun v _ rv rs => rs.nel (Core.listAt rv C hj fun b items2 n2 mb l2 r2 z2 => ?_)
    have hs2 : items.size + items2.size ≤ sizeLine := by rw [IsL_size r, IsL_size r2]; exact Nat.le_trans h1 LIM_lt
    refine call_meets PySem.F.slot_list_extend ⟨_, l, rfl⟩ PySem.F.entry_list_extend (PySem.F.args_list_extend_2 _ _) (PySem.AutoSeq1.list_extend_list_list_0 a items n b items2 n2 (extend_door hs2) hsz (Nat.le_succ_of_le hs2)) ⟨l, l2, ?_⟩
    exact C.setEnd (f := fun x => x ++ items2) ma l (xs' := xs ++ ys) (by rw [Array.toList_append]; exact r.append r2) (by rw [List.length_append]; exact h1) (fun _ _ => VRel.n) q
  | pop =>
    obtain ⟨ys, y, rfl, rfl, q⟩ := q
    refine rs.nel ?_
    have e1 : items.size = ys.length + 1 := (IsL_size r).trans List.length_append
    have e2 : items.toList.length - 1 = ys.length := by rw [Array.length_toList, e1]; rfl
    obtain ⟨v, hv, rv⟩ := r.get (j := ys.length) (x := y) (by rw [List.getElem?_append_right (Nat.le_refl _), Nat.sub_self]; rfl)
    refine call_meets PySem.F.slot_list_pop ⟨_, l, rfl⟩ PySem.F.entry_list_pop (PySem.F.args_list_pop_1 _) (MeetsSeq.list_pop_last a items n v (by rw [e1]; exact Array.getElem?_toList.symm.trans hv) hsz) ⟨l, ?_⟩
    refine C.setEnd (f := fun xs => xs.eraseIdxIfInBounds (items.size - 1)) ma l (xs' := ys) ?_ (Nat.le_trans (by rw [List.length_append]; exact Nat.le_add_right _ _) z) (fun _ E => rv.ext E) q
    have := r.take ys.length
    rw [List.take_left] at this
    rw [toList_erase, ← Array.length_toList, eraseIdx_last, e2]
    exact this
  | remove =>
    obtain ⟨kk, ns, rfl, hns, hk, q⟩ := q
    refine rs.el fun v _ rv rs => rs.nel (rv.iel fun t => ?_)
    obtain ⟨rfl, hi2⟩ := intsOf_rel r hns
    obtain ⟨j, hj, h1, h2, h3⟩ := ints_find hi2 hk
    refine call_meets PySem.F.slot_list_remove ⟨_, l, rfl⟩ PySem.F.entry_list_remove (PySem.F.args_list_remove_2 _ _)
      (MeetsSeq.list_remove a items n (.int kk t) (isInt kk) (fun y hy => eq_isInt kk t hi2 y hy.val) j hj h1 (fun m hm hlt => h2 m hm hlt) hsz) ⟨l, ?_⟩
    exact C.setEnd (f := fun xs => xs.eraseIdxIfInBounds j) ma l (xs' := (ns.erase kk).map V.int) (by rw [toList_erase]; exact VRels.ofInts h3)
      (by rw [List.length_map] at z ⊢; exact Nat.le_trans List.length_erase_le z) (fun _ _ => VRel.n) q
  | get => exact q.elim
theorem wp_methD (S : Stat K base mg mb caddr) (C : Core prog w base caddr μ H s.heap) {i : Id} {a : Nat} {m : Mth} {args : List V} {vs : List Value} {Q : V → Hp → Prop} (ma : μ i false = some a) (rs : VRels μ s.heap args vs) (q : methD m i args Q H) :
    Wp prog w base caddr A (call (.builtin ("dict." ++ m.s)) (.ref a :: vs)) VRel Q μ s := by
  obtain ⟨ep, es, hi, q⟩ := q
  refine C.dictM hi ma fun kvs D r z => ?_
  cases m with
  | get =>
    obtain ⟨k, d, h, q⟩ := q
    have ends : ∀ v2, VRel μ s.heap d v2 → EndW prog w base caddr VRel Q μ s ((valueAt kvs k).getD v2) { s with toks := s.toks + 1 } := fun v2 rd => by
      rcases r.get (k := k) with ⟨e1, e2⟩ | ⟨u, v, e1, e2, rr⟩
      · rw [e2]; rw [e1] at q; exact Wp.hereT C rd q
      · rw [e2]; rw [e1] at q; exact Wp.hereT C rr q
    rcases h with ⟨rfl, rfl⟩ | rfl
    · exact rs.el fun v _ rv rs => rs.nel (rv.iel fun t => call_meetsIn PySem.F.slot_dict_get D.dictOf.typeIs PySem.F.entry_dict_get (PySem.F.args_dict_get_2 _ _) (meets_dict_get (knd prog w) a int_is (sys_low S C ma)) ⟨_, D.dictOf.mapOf, ends _ VRel.n⟩)
    · exact rs.el fun v _ rv rs => rs.el fun v2 _ rd rs => rs.nel (rv.iel fun t => call_meetsIn PySem.F.slot_dict_get D.dictOf.typeIs PySem.F.entry_dict_get (PySem.F.args_dict_get_3 _ _ _) (meets_dict_get_default (knd prog w) a int_is (sys_low S C ma) v2) ⟨_, D.dictOf.mapOf, ends _ rd⟩)
  | pop =>
    obtain ⟨k, u, rfl, hu, q⟩ := q
    refine rs.el fun v _ rv rs => rs.nel (rv.iel fun t => r.gel hu fun x hx rx => ?_)
    refine pop_at D (by rw [r.length]; exact Nat.le_trans z LIM_lt) hx fun h' D' hs => ?_
    obtain ⟨C', E'⟩ := C.change (i := i) (o' := .dict (ep + 1) (delK es k)) (h' := h') ma
      (fun b ob e nb => (hs.2 b nb).trans e) (dict_get D') (fun E => .dict ma D' (r.del.ext E) (Nat.le_trans (List.length_filter_le _ _) z))
    exact .mk _ _ μ u _ rfl C' E' (rx.ext E') q
  | _ => exact q.elim
end
end Mine
end
noncomputable section
open PySem PySem.W PyProof.Rows
set_option maxRecDepth 100000
namespace Mine
section
variable {prog : Program} {w : World} {base : Heap} {caddr : Cls → Addr} {K : Frag} {mg mb : Str → Option Value}
variable {A : Around} {E : Value → Shared → Prop} {μ μ' : Mu} {s : Shared} {h h' : Heap} {H : Hp} {d : Addr} {ep : Nat} {k : Int}
theorem newList_end {xs : List V} {items : Array Value} {n : Nat} {tk : Nat} {a : Nat} {Q : V → Hp → Prop} (C : Core prog w base caddr μ H s.heap) (r : ∀ μ', Ext μ s.heap μ' h' → VRels μ' h' xs items.toList) (z : xs.length ≤ LIM)
    (kp : ∀ b o, s.heap.get? b = some o → h'.get? b = some o) (lo : s.heap.objs.size ≤ a) (l : h'.get? a = some { cls := .type "list", data := .seq items n }) (q : newO (.list xs) Q H) :
    EndW prog w base caddr VRel Q μ s (.ref a) { s with heap := h', toks := tk } := by
  obtain ⟨i, hi, q⟩ := q
  obtain ⟨C', E'⟩ := C.newAt (i := i) (o' := .list xs) hi kp lo ⟨_, l⟩ (fun E => .list (Mu.set_self _ _ _ _) l (r _ E) z)
  exact .mk h' tk _ (.obj i) _ rfl C' E' (VRel.o (Mu.set_self _ _ _ _)) q
theorem newList_push {xs : List V} {items : Array Value} {n : Nat} {tk : Nat} {Q : V → Hp → Prop} (C : Core prog w base caddr μ H s.heap) (r : VRels μ s.heap xs items.toList) (z : xs.length ≤ LIM) (q : newO (.list xs) Q H) :
    EndW prog w base caddr VRel Q μ s (.ref s.heap.objs.size) { s with heap := s.heap.push { cls := .type "list", data := .seq items n }, toks := tk } :=
  newList_end C (fun _ E => r.ext E) z (fun _ _ e => Heap.get?_push_of_some _ e) (Nat.le_refl _) (Heap.get?_push_size _ rfl) q
theorem wp_newList {xs : List V} {vs : List Value} {Q : V → Hp → Prop} (C : Core prog w base caddr μ H s.heap) (r : VRels μ s.heap xs vs) (z : xs.length ≤ LIM) (q : newO (.list xs) Q H) :
    Wp prog w base caddr A (newList vs) VRel Q μ s :=
  wpAny_newList (newList_push (items := vs.toArray) C r z q) (by rw [r.length]; exact Nat.le_trans z LIM_lt)
theorem wp_newTuple {xs : List V} {vs : List Value} {Q : V → Hp → Prop} (C : Core prog w base caddr μ H s.heap) (r : VRels μ s.heap xs vs) (z : xs.length ≤ LIM) (q : Q (.tup xs) H) :
    Wp prog w base caddr A (newTuple vs) VRel Q μ s :=
  wpAny_newTuple (.mk _ _ μ (.tup xs) H rfl (C.push _) (Ext.push _ _ _) (VRel.t (items := vs.toArray) ⟨_, Heap.get?_push_size _ rfl, rfl, 0, rfl⟩ (fun i t e => absurd (C.lt e) (Nat.lt_irrefl _)) (r.ext (Ext.push μ s.heap _))) q)
    (by rw [r.length]; exact Nat.le_trans z LIM_lt)
theorem dictAt_nil {h : Heap} : (h.push { cls := .type "dict", data := .dict #[] }).DictAt (knd prog w) h.objs.size [] 0 :=
  ⟨_, _, Heap.get?_push_size _ rfl, ⟨rfl, rfl, rfl⟩, rfl, fun _ he => (by cases Array.mem_def.mp he), Pairs.nil, List.nodup_nil⟩
theorem wp_dict0 {env : PySem.Env} {pos : Pos} {Q : V → Hp → Prop} (C : Core prog w base caddr μ H s.heap) (q : newO (.dict 0 []) Q H) :
    Wp prog w base caddr A (eval (.Dict [] [] pos) env) VRel Q μ s := by
  refine wpAny_Dict_empty ?_
  obtain ⟨i, hi, q⟩ := q
  obtain ⟨C', E'⟩ := C.newAt (i := i) (o' := .dict 0 []) (a := s.heap.objs.size) (h' := s.heap.push { cls := .type "dict", data := .dict #[] }) hi (fun b o e => Heap.get?_push_of_some _ e) (Nat.le_refl _) ⟨_, Heap.get?_push_size _ rfl⟩
    (fun E => .dict (Mu.set_self _ _ _ _) dictAt_nil (rfl : _ = _) (Nat.zero_le _))
  exact .mk _ s.toks _ (.obj i) _ rfl C' E' (VRel.o (Mu.set_self _ _ _ _)) q
theorem wp_truthy {Z : V} {v : Value} {b : Bool} {Q : Bool → Hp → Prop} (C : Core prog w base caddr μ H s.heap) (rv : VRel μ s.heap Z v) (hb : truthyV H Z = some b) (q : Q b H) :
    Wp prog w base caddr A (truthy v) (fun _ _ x y => x = y) Q μ s := by
  cases Z with
  | none => obtain rfl : v = .none := rv; cases hb; exact wpAny_pure (Wp.here C rfl q)
  | bool b => obtain rfl : v = .bool b := rv; cases hb; exact wpAny_truthy_bool (Wp.here C rfl q)
  | obj i =>
    refine listP_el hb fun xs hi hb => Core.listAt rv C hi fun a items n m l r z => ?_
    cases hb
    have e : (!items.isEmpty) = !xs.isEmpty := by
      obtain ⟨li⟩ := items
      cases li with
      | nil => cases xs with
        | nil => rfl
        | cons _ _ => exact absurd r.length (Nat.succ_ne_zero _).symm
      | cons _ _ => cases xs with
        | nil => exact absurd r.length (Nat.succ_ne_zero _)
        | cons _ _ => rfl
    exact wpAny_truthy_list l.isList (Int.ofNat_lt.mpr (Nat.lt_of_le_of_lt (IsL_size r ▸ z) (by decide))) (Wp.hereT C e.symm q)
  | _ => cases hb
mutual
noncomputable def toPy : D → PyData
  | .int i => .int i
  | .str s => .str (Str.ofString s)
  | .tup ds => .tuple (toPys ds)
  | .list ds => .list (toPys ds)
noncomputable def toPys : List D → List PyData
  | [] => []
  | d :: r => toPy d :: toPys r
end
mutual
theorem eqv_toPy : ∀ x y : D, PyData.eqv (toPy x) (toPy y) = D.beq x y
  | .int a, .int b => rfl
  | .str a, .str b => by
    show (Str.ofString a == Str.ofString b) = (a == b)
    rw [ofString_beq, Bool.eq_iff_iff, decide_eq_true_iff, beq_iff_eq]
  | .tup a, .tup b => eqv_toPys a b
  | .list a, .list b => eqv_toPys a b
  | .int _, .str _ | .int _, .tup _ | .int _, .list _ | .str _, .int _ | .str _, .tup _ | .str _, .list _
  | .tup _, .int _ | .tup _, .str _ | .tup _, .list _ | .list _, .int _ | .list _, .str _ | .list _, .tup _ => rfl
theorem eqv_toPys : ∀ x y : List D, PyData.eqvAll (toPys x) (toPys y) = D.beqs x y
  | [], [] => rfl
  | a :: r, b :: t => by
    show (PyData.eqv (toPy a) (toPy b) && PyData.eqvAll (toPys r) (toPys t)) = (D.beq a b && D.beqs r t)
    rw [eqv_toPy a b, eqv_toPys r t]
  | [], _ :: _ | _ :: _, [] => rfl
end
theorem strOk_of (s : String) : PyData.strOk (Str.ofString s) = true := by
  rw [Str.ofString_eq_toList]
  unfold PyData.strOk
  rw [List.all_toArray, List.all_eq_true]
  simp only [List.mem_map, decide_eq_true_eq]
  rintro x ⟨c, _, rfl⟩
  have h := c.valid
  simp only [UInt32.isValidChar, Nat.isValidChar] at h
  show c.val.toNat < 1114112
  lia
mutual
theorem canLay_toPy : ∀ d : D, (toPy d).canLay0 = true
  | .int _ => rfl
  | .str s => strOk_of s
  | .tup ds => canLay_toPys ds
  | .list ds => canLay_toPys ds
theorem canLay_toPys : ∀ ds : List D, PyData.canLayAll0 (toPys ds) = true
  | [] => rfl
  | d :: r => Bool.and_eq_true_iff.mpr ⟨canLay_toPy d, canLay_toPys r⟩
end
theorem optAll_el {α : Type} {x : Option α} {r : List (Option α)} {l : List α} {P : Prop} (e : optAll (x :: r) = some l) (k : ∀ a t, x = some a → optAll r = some t → l = a :: t → P) : P := by
  obtain ⟨a, h1, e⟩ := Option.bind_eq_some_iff.mp (show (x.bind fun a => (optAll r).map (a :: ·)) = some l from e)
  obtain ⟨t, h2, h3⟩ := Option.map_eq_some_iff.mp e
  exact k a t h1 h2 h3.symm
theorem dat_el {n : Nat} {Z : V} {d : D} {P : Prop} (e : dat n H Z = some d) (ki : ∀ i, Z = .int i → d = .int i → P) (ks : ∀ s, Z = .str s → d = .str s → P)
    (kt : ∀ m vs ds, n = m + 1 → Z = .tup vs → optAll (vs.map (dat m H)) = some ds → d = .tup ds → P)
    (kl : ∀ m i xs ds, n = m + 1 → Z = .obj i → H i = some (.list xs) → optAll (xs.map (dat m H)) = some ds → d = .list ds → P) : P := by
  cases Z with
  | int i => cases n <;> exact ki i rfl (Option.some.inj e).symm
  | str s => cases n <;> exact ks s rfl (Option.some.inj e).symm
  | tup vs => cases n with
    | zero => cases e
    | succ m =>
      obtain ⟨ds, h1, h2⟩ := Option.map_eq_some_iff.mp (show (optAll (vs.map (dat m H))).map D.tup = some d from e)
      exact kt m vs ds rfl rfl h1 h2.symm
  | obj i => cases n with
    | zero => cases e
    | succ m =>
      refine listP_el (o := H i) (f := fun xs => (optAll (xs.map (dat m H))).map D.list) e fun xs hi e => ?_
      obtain ⟨ds, h1, h2⟩ := Option.map_eq_some_iff.mp e
      exact kl m i xs ds rfl rfl hi h1 h2.symm
  | _ => cases n <;> cases e
theorem dat_depths {n : Nat} (ih : ∀ (Z : V) (d : D), dat n H Z = some d → (toPy d).depth ≤ n) (vs : List V) (ds : List D) (e : optAll (vs.map (dat n H)) = some ds) : PyData.depthAll (toPys ds) ≤ n := by
  induction vs generalizing ds with
  | nil => cases e; exact Nat.zero_le _
  | cons v vs ih2 => exact optAll_el e fun a t h1 h2 h3 => h3 ▸ Nat.max_le.mpr ⟨ih v a h1, ih2 t h2⟩
theorem dat_depth (n : Nat) : ∀ (Z : V) (d : D), dat n H Z = some d → (toPy d).depth ≤ n := by
  induction n with
  | zero => exact fun Z d e => dat_el e (fun i _ h => h ▸ Nat.le_refl _) (fun i _ h => h ▸ Nat.le_refl _) (fun _ _ _ h => nomatch h) fun _ _ _ _ h => nomatch h
  | succ n ih =>
    exact fun Z d e => dat_el e (fun i _ h => by subst h; exact Nat.zero_le _) (fun i _ h => by subst h; exact Nat.zero_le _)
      (fun m vs ds h _ h1 h2 => by cases h; exact h2 ▸ Nat.succ_le_succ (dat_depths ih vs ds h1)) (fun m i xs ds h _ _ h1 h2 => by cases h; exact h2 ▸ Nat.succ_le_succ (dat_depths ih xs ds h1))
theorem dat_readsAll {n : Nat} (ih : ∀ (Z : V) (d : D) (v : Value), dat n H Z = some d → VRel μ h Z v → ∃ as, Reads h v (toPy d) as)
    (vs : List V) (ds : List D) (us : List Value) (e : optAll (vs.map (dat n H)) = some ds) (r : VRels μ h vs us) : ∃ as, ReadsAll h us (toPys ds) as := by
  induction vs generalizing ds us with
  | nil => cases e; exact r.nel ⟨[], .nil⟩
  | cons v vs ih2 =>
    exact optAll_el e fun a t h1 h2 h3 => r.el fun u ut rv rr => by
      obtain ⟨as, h4⟩ := ih v a u h1 rv
      obtain ⟨bs, h5⟩ := ih2 t ut h2 rr
      subst h3
      exact ⟨as ++ bs, .cons h4 h5⟩
theorem dat_reads (C : Core prog w base caddr μ H h) (n : Nat) : ∀ (Z : V) (d : D) (v : Value), dat n H Z = some d → VRel μ h Z v → ∃ as, Reads h v (toPy d) as := by
  induction n with
  | zero => exact fun Z d v e r => dat_el e (fun i h1 h2 => by subst h1 h2; exact r.iel fun t => ⟨[], .int _ _⟩) (fun s h1 h2 => by subst h1 h2; obtain ⟨t, rfl⟩ := r; exact ⟨[], .str _ _⟩) (fun _ _ _ h => nomatch h) fun _ _ _ _ h => nomatch h
  | succ n ih =>
    exact fun Z d v e r => dat_el e (fun i h1 h2 => by subst h1 h2; exact r.iel fun t => ⟨[], .int _ _⟩) (fun s h1 h2 => by subst h1 h2; obtain ⟨t, rfl⟩ := r; exact ⟨[], .str _ _⟩)
      (fun m vs ds hm h1 h2 h3 => by
        cases hm; subst h1 h3
        refine r.tel fun a items T _ rr => ?_
        obtain ⟨as, h4⟩ := dat_readsAll ih vs ds _ h2 rr
        obtain ⟨o, ho, hc, m, hd⟩ := T
        exact ⟨as, .tuple ho hc hd h4⟩)
      (fun m i xs ds hm h1 hi h2 h3 => by
        cases hm; subst h1 h3
        refine Core.listAt r C hi fun a items n' m l rr z => ?_
        obtain ⟨as, h4⟩ := dat_readsAll ih xs ds _ h2 rr
        exact ⟨_, .list l rfl rfl h4⟩)
theorem dat_shaped {Z : V} {d : D} (e : dat 8 H Z = some d) : PySem.SeqAt.shaped (toPy d) = true := by
  unfold PySem.SeqAt.shaped
  rw [canLay_toPy, Bool.true_and, decide_eq_true_eq]
  exact Nat.le_trans (dat_depth 8 Z d e) (by decide)
end
end Mine
end
noncomputable section
open PySem PySem.W PyProof.Rows
set_option maxRecDepth 100000
namespace Mine
structure CtxA (n : Nat) (A : Around) : Prop where
  hh : A.handled = none
  depth : A.depth + 4 * n ≤ 900
  units : A.units + 10 * n ≤ 9000
section
variable {prog : Program} {w : World} {base : Heap} {caddr : Cls → Addr} {K : Frag} {mg mb : Str → Option Value}
variable {A : Around} {E : Value → Shared → Prop} {μ μ' : Mu} {s : Shared} {h h' : Heap} {H : Hp} {d : Addr} {ep : Nat} {k : Int} {n : Nat}
noncomputable def opOf : Cmp → CmpOp
  | .eq => .Eq | .ne => .NotEq | .lt => .Lt | .gt => .Gt | .isNone => .Is | .isNotNone => .IsNot | .in_ => .In | .notIn => .NotIn
theorem units64 (X : CtxA n A) : A.units + 64 < cLine := by have := X.units; rw [cLine_is]; lia
theorem notNone {Z : V} {v : Value} (r : VRel μ h Z v) : (v == Value.none) = isN Z := by
  cases Z with
  | none => obtain rfl : v = .none := r; rfl
  | bool b => obtain rfl : v = .bool b := r; rfl
  | int i => exact r.iel fun _ => rfl
  | str x => obtain ⟨t, rfl⟩ := r; rfl
  | tup vs => exact r.tel fun _ _ _ _ _ => rfl
  | obj i => exact r.oel fun _ _ => rfl
theorem any_contains (ns : List Int) (k : Int) : ns.any (· == k) = ns.contains k := by
  induction ns with
  | nil => rfl
  | cons n r ih => rw [List.any_cons, List.contains_cons, ih, Bool.beq_comm]
@[elab_as_elim] theorem ints_el {x y : V} {a b : Value} (rx : VRel μ h x a) (ry : VRel μ h y b) {R : Int → Int → Prop} {P : Value → Value → Prop} (q : ∃ i j, x = .int i ∧ y = .int j ∧ R i j) (k : ∀ i j t u, R i j → P (.int i t) (.int j u)) : P a b := by
  obtain ⟨i, j, rfl, rfl, q⟩ := q
  exact rx.iel fun t => ry.iel fun u => k i j t u q
@[elab_as_elim] theorem mem_el (S : Stat K base mg mb caddr) (C : Core prog w base caddr μ H h) {f : Bool → Bool} {x y : V} {a b : Value} {Q : V → Hp → Prop} (rx : VRel μ h x a) (ry : VRel μ h y b) (q : memW f x y Q H) {P : Value → Value → Prop}
    (kd : ∀ k t a kvs, (a == sysModules) = false → h.DictOf (knd prog w) a kvs → Q (.bool (f (valueAt kvs k).isSome)) H → P (.int k t) (.ref a))
    (kl : ∀ k t a items n ns, IsL h a items n → IntsAre items.toList ns → Q (.bool (f (ns.any (· == k)))) H → P (.int k t) (.ref a)) : P a b := by
  obtain ⟨k, i, rfl, rfl, q⟩ := q
  refine rx.iel fun t => ?_
  rcases q with ⟨ep, es, hi, q⟩ | ⟨xs, ns, hi, hns, q⟩
  · exact Core.dictAt ry C hi fun a kvs m D r z => kd k t a kvs (sys_low S C m) D.dictOf (by rw [r.isSome]; exact q)
  · exact Core.listAt ry C hi fun a items n m l r z => kl k t a items n ns l (intsOf_rel r hns).2 (by rw [any_contains]; exact q)
theorem wp_cmp (S : Stat K base mg mb caddr) (X : CtxA n A) (C : Core prog w base caddr μ H s.heap) {op : Cmp} {x y : V} {a b : Value} {Q : V → Hp → Prop} (rx : VRel μ s.heap x a) (ry : VRel μ s.heap y b)
    (hb : op = .isNone ∨ op = .isNotNone → y = .none) (q : cmpW op x y Q H) : Wp prog w base caddr A (compareOp (opOf op) a b) VRel Q μ s := by
  cases op with
  | eq =>
    obtain ⟨dx, dy, h1, h2, q⟩ := q
    obtain ⟨as, r1⟩ := dat_reads C 8 x dx a h1 rx
    obtain ⟨bs, r2⟩ := dat_reads C 8 y dy b h2 ry
    exact eq_dataH r1 r2 (dat_shaped h1) (dat_shaped h2) (units64 X) (by rw [eqv_toPy]; exact Wp.here C VRel.b q)
  | ne =>
    obtain ⟨dx, dy, h1, h2, q⟩ := q
    obtain ⟨as, r1⟩ := dat_reads C 8 x dx a h1 rx
    obtain ⟨bs, r2⟩ := dat_reads C 8 y dy b h2 ry
    exact ne_dataH r1 r2 (dat_shaped h1) (dat_shaped h2) (units64 X) (by rw [eqv_toPy]; exact Wp.here C VRel.b q)
  | lt => exact ints_el rx ry q fun i j t u q => PySem.P.lt_int (Wp.here C VRel.b q)
  | gt => exact ints_el rx ry q fun i j t u q => PySem.P.gt_int (Wp.here C VRel.b q)
  | isNone =>
    obtain rfl := hb (.inl rfl)
    obtain rfl : b = .none := ry
    exact is_none_gen (by rw [notNone rx]; exact Wp.here C VRel.b q)
  | isNotNone =>
    obtain rfl := hb (.inr rfl)
    obtain rfl : b = .none := ry
    exact isnot_none_gen (by rw [notNone rx]; exact Wp.here C VRel.b q)
  | in_ => exact mem_el (f := fun b => b) S C rx ry q (fun k t a kvs lo D q => wpAny_in_of (knd := knd prog w) int_is lo D.mapOf (Wp.hereT C VRel.b q)) fun k t a items n ns l hI q => in_list_ints (vs := items.toList) l.isList hI (Wp.here C VRel.b q)
  | notIn => exact mem_el (f := fun b => !b) S C rx ry q (fun k t a kvs lo D q => wpAny_notIn_of (knd := knd prog w) int_is lo D.mapOf (Wp.hereT C VRel.b q)) fun k t a items n ns l hI q => notin_list_ints (vs := items.toList) l.isList hI (Wp.here C VRel.b q)
noncomputable def binOf : BOp → Operator
  | .add => .Add | .sub => .Sub | .mod => .Mod | .fdiv => .FloorDiv
theorem wp_bin (C : Core prog w base caddr μ H s.heap) {op : BOp} {x y : V} {a b : Value} {Q : V → Hp → Prop} (rx : VRel μ s.heap x a) (ry : VRel μ s.heap y b) (q : binW op x y Q H) :
    Wp prog w base caddr A (binaryOp (binOf op) a b) VRel Q μ s := by
  cases op with
  | add =>
    rcases q with q | ⟨i, j, xs, ys, rfl, rfl, hi, hj, h1, q⟩
    · exact ints_el rx ry q fun i j t u q => PySem.P.add_int (Wp.hereT C VRel.i q)
    · refine Core.listAt rx C hi fun a items n1 ma l r z => Core.listAt ry C hj fun b items2 n2 mb l2 r2 z2 => ?_
      exact PySem.P.add_list l l2 (newList_push (items := items ++ items2) C (by rw [Array.toList_append]; exact r.append r2) (by rw [List.length_append]; exact h1) q) (by rw [IsL_size r, IsL_size r2]; exact Nat.le_trans h1 LIM_lt)
  | sub => exact ints_el rx ry q fun i j t u q => PySem.P.sub_int (Wp.hereT C VRel.i q)
  | mod => exact ints_el rx ry q fun i j t u q => mod_int' q.1 (Wp.hereT C VRel.i q.2)
  | fdiv => exact ints_el rx ry q fun i j t u q => floordiv_int (Int.ne_of_gt q.1) (Wp.hereT C VRel.i q.2.2) (.inl (PyProof.noPylong_small (by lia)))
theorem wp_ibin (C : Core prog w base caddr μ H s.heap) {op : BOp} {x y : V} {a b : Value} {Q : V → Hp → Prop} (rx : VRel μ s.heap x a) (ry : VRel μ s.heap y b) (ho : op = .add ∨ op = .sub) (hx : ∀ i, x ≠ .obj i) (q : binW op x y Q H) :
    Wp prog w base caddr A (inplaceOp (binOf op) a b) VRel Q μ s := by
  rcases ho with rfl | rfl
  · rcases q with q | ⟨i, j, xs, ys, e, _⟩
    · exact ints_el rx ry q fun i j t u q => PySem.P.iadd_int (Wp.hereT C VRel.i q)
    · exact absurd e (hx _)
  · exact ints_el rx ry q fun i j t u q => PySem.P.isub_int (Wp.hereT C VRel.i q)
theorem wp_neg (C : Core prog w base caddr μ H s.heap) {i : Int} {v : Value} {Q : V → Hp → Prop} (r : VRel μ s.heap (.int i) v) (q : Q (.int (-i)) H) : Wp prog w base caddr A (unaryOp .USub v) VRel Q μ s :=
  r.iel fun t => PySem.P.neg_int (Wp.hereT C VRel.i q)
theorem wp_not (C : Core prog w base caddr μ H s.heap) {Z : V} {v : Value} {b : Bool} {Q : V → Hp → Prop} (r : VRel μ s.heap Z v) (hb : truthyV H Z = some b) (q : Q (.bool (!b)) H) : Wp prog w base caddr A (unaryOp .Not v) VRel Q μ s :=
  not_of ((wp_truthy (Q := fun b H => Q (.bool (!b)) H) C r hb q).nestS fun c h' tk μ' b' H' C' E' r' q' => .mk h' tk μ' _ H' rfl C' E' (r' ▸ VRel.b) q')
theorem toNat_cast {m : Int} (h : 0 ≤ m) : ((m.toNat : Nat) : Int) = m := Int.toNat_of_nonneg h
theorem wp_sliceTo (C : Core prog w base caddr μ H s.heap) {i : Id} {a sl : Nat} {xs : List V} {m : Int} {t : Tok} {Q : V → Hp → Prop} (ma : μ i false = some a) (hi : H i = some (.list xs)) (h0 : 0 ≤ m)
    (hs : s.heap.IsSliceOf sl .none (.int m t) .none) (q : newO (.list (xs.take m.toNat)) Q H) : Wp prog w base caddr A (getItem (.ref a) (.ref sl)) VRel Q μ s := by
  refine C.listM hi ma fun items n1 l r z => wpAny_getItem_list_slice l.isList hs .none (.int m t) .none (by intro e; cases e) ?_ (IsL_le r z)
  rw [← toNat_cast h0, slicePick_upto']
  exact newList_push (items := (items.toList.take m.toNat).toArray) C (r.take m.toNat) (by rw [List.length_take]; exact Nat.le_trans (Nat.min_le_right _ _) z) q
theorem wp_sliceFrom (C : Core prog w base caddr μ H s.heap) {i : Id} {a sl : Nat} {xs : List V} {m : Int} {t : Tok} {Q : V → Hp → Prop} (ma : μ i false = some a) (hi : H i = some (.list xs)) (h0 : 0 ≤ m)
    (hs : s.heap.IsSliceOf sl (.int m t) .none .none) (q : newO (.list (xs.drop m.toNat)) Q H) : Wp prog w base caddr A (getItem (.ref a) (.ref sl)) VRel Q μ s := by
  refine C.listM hi ma fun items n1 l r z => wpAny_getItem_list_slice l.isList hs (.int m t) .none .none (by intro e; cases e) ?_ (IsL_le r z)
  rw [← toNat_cast h0, slicePick_from']
  exact newList_push (items := (items.toList.drop m.toNat).toArray) C (r.drop m.toNat) (by rw [List.length_drop]; exact Nat.le_trans (Nat.sub_le _ _) z) q
end
end Mine
end
noncomputable section
open PySem PySem.W PyProof.Rows
set_option maxRecDepth 100000
namespace Mine
section
variable {prog : Program} {w : World} {base : Heap} {caddr : Cls → Addr} {K : Frag} {mg mb : Str → Option Value}
variable {A : Around} {E : Value → Shared → Prop} {μ μ' : Mu} {s : Shared} {h h' : Heap} {H : Hp} {d : Addr} {ep : Nat} {k : Int} {n : Nat}
theorem sortI_eq {ns ns' : List Int} (p : ns'.Perm ns) (o : ns'.Pairwise (· ≤ ·)) : ns' = sortI ns := by
  have p2 : (sortI ns).Perm ns := List.mergeSort_perm ns _
  have o2 : (sortI ns).Pairwise (· ≤ ·) := (List.pairwise_mergeSort (le := fun a b : Int => decide (a ≤ b)) (fun a b c h1 h2 => decide_eq_true (Int.le_trans (of_decide_eq_true h1) (of_decide_eq_true h2)))
    (fun a b => Bool.or_eq_true_iff.mpr ((Int.le_total a b).imp decide_eq_true decide_eq_true)) ns).imp of_decide_eq_true
  exact List.Perm.eq_of_pairwise (fun a b _ _ h1 h2 => Int.le_antisymm h1 h2) o o2 (p.trans p2.symm)
theorem sortI_le {ns : List Int} (h : ns.length ≤ 60) : ((sortI ns).map V.int).length ≤ LIM := by
  rw [List.length_map, show (sortI ns).length = ns.length from (List.mergeSort_perm ns _).length_eq]; exact Nat.le_trans h (by decide)
theorem wp_sortedList (C : Core prog w base caddr μ H s.heap) {i : Id} {v : Value} {xs : List V} {ns : List Int} {Q : V → Hp → Prop} (rv : VRel μ s.heap (.obj i) v) (hi : H i = some (.list xs)) (hns : intsOf xs = some ns) (hl : ns.length ≤ 60)
    (q : newO (.list ((sortI ns).map V.int)) Q H) : Wp prog w base caddr A (call (.builtin "sorted") [v]) VRel Q μ s := by
  refine Core.listAt rv C hi fun a items n' m l r z => ?_
  have hI := (intsOf_rel r hns).2
  refine sorted_ints (vs := items.toList) l.isList hI (by rw [hI.length]; exact Nat.lt_of_le_of_lt hl (by decide)) fun out ns' a1 a2 a3 => ?_
  obtain rfl := sortI_eq a2 a3
  obtain ⟨e, he⟩ := sortedAll_at s.heap items.toList out
  exact newList_end (tk := s.toks) (items := out) (n := e) C (fun μ' E => VRels.ofInts a1) (sortI_le hl) (fun b o q => sortedAll_old q) (Nat.le_succ _) he q
theorem is_int {k : Int} {v : Value} (h : (knd prog w).is k v = true) : ∃ tk, v = .int k tk := by
  cases v with
  | int i t => exact ⟨t, by rw [beq_iff_eq.mp (show (i == k) = true from h)]⟩
  | _ => cases h
theorem dictKeys_ints {kvs : List (Int × Value)} {vs : List Value} (hl : vs.length = kvs.length) (hv : ∀ (j : Nat) (v : Value), vs[j]? = some v → ∃ k x, kvs[j]? = some (k, x) ∧ (knd prog w).is k v = true) : IntsAre vs (kvs.map (·.1)) := by
  induction kvs generalizing vs with
  | nil => cases vs with
    | nil => exact .nil
    | cons _ _ => cases hl
  | cons p r ih =>
    cases vs with
    | nil => cases hl
    | cons v t =>
      obtain ⟨k, x, e, hk⟩ := hv 0 v rfl
      cases e
      obtain ⟨tk, rfl⟩ := is_int hk
      exact .cons k tk (ih (Nat.succ.inj hl) fun j v e => hv (j + 1) v e)
inductive Got (s : Shared) (ks : List Int) (q : Result) (s' : Shared) : Prop
  | mk (h' : Heap) (tk : Nat) (acc : Array Value) (c : Nat) (e : q = .ok (.ret (.ref s.heap.objs.size))) (e' : s' = { s with heap := h', toks := tk }) (hk : ∀ b o, s.heap.get? b = some o → h'.get? b = some o)
      (hS : h'.get? s.heap.objs.size = some { cls := .type "list", dict := none, data := .seq acc c, slots := #[] }) (hI : IntsAre acc.toList ks)
theorem collect_dict {a : Nat} {kvs : List (Int × Value)} {R : List Value → Shared → Prop} (hh : A.handled = none) (lo : (a == sysModules) = false) (D : s.heap.DictAt (knd prog w) a kvs ep) (hn : kvs.length ≤ sizeLine)
    (hq : ∀ (h' : Heap) (tk : Nat) (acc : Array Value), (∀ b o, s.heap.get? b = some o → h'.get? b = some o) → s.heap.objs.size < h'.objs.size → IntsAre acc.toList (kvs.map (·.1)) → R acc.toList { s with heap := h', toks := tk }) :
    wpAny (model prog w) A (collect (.ref a)) R E s := by
  have Kd := kdl_dict (prog := prog) (w := w) (knd := knd prog w) (kvs := kvs) (ep := ep) lo
  have hlt := Kd.there _ D
  have hP : plainId "list.__iadd__" = true := PySem.F.plain_list_iadd
  unfold collect
  refine wpAny_bind (wpAny_runValue (codeAny_builtin entry_proto_collect' ?_))
  rw [Around.under_plainId PySem.F.plain_proto_collect _]
  show wpAny _ A.in1 (newList [] >>= fun l => again (.builtin "list.__iadd__" ⟨[l, .ref a], []⟩)) _ _ s
  refine wpAny_bind (wpAny_newObj_type (wpAny_pure ⟨plainId_quiet hP _, codeAny_builtin entry_list_iadd' ?_⟩))
  rw [Around.under_plainId hP _]
  have hS₁ : (s.heap.push { cls := .type "list", data := .seq ([] : List Value).toArray }).get? s.heap.objs.size = some { cls := .type "list", data := .seq #[] } := Heap.get?_push_size _ rfl
  show wpAny _ A.in1 (Builtin.List.listExtendWith (.ref s.heap.objs.size) (.ref a) (.ref s.heap.objs.size)) _ _ _
  have key := kdl_extend (A := A) (s := { s with heap := s.heap.push { cls := .type "list", data := .seq ([] : List Value).toArray } })
    (R := Got s (kvs.map (·.1)))
    Kd hh (Kd.keep _ _ D fun b _ o e => Heap.get?_push_of_some _ e) s.heap.objs.size (Nat.ne_of_gt hlt.1) (Nat.ne_of_gt hlt.2) (.ref s.heap.objs.size) 0 hS₁
    (fun h' tk acc' c' hk hS' hacc => .mk h' tk acc' c' rfl rfl (fun b o e => hk b o (Nat.ne_of_lt (Heap.lt_size e)) (Heap.get?_push_of_some _ e)) hS'
      (dictKeys_ints (prog := prog) (w := w) (Array.length_toList.trans hacc.1) fun j v e => hacc.2 j v (Array.getElem?_toList.symm.trans e))) hn
  have fin : ∀ s' r, Got s (kvs.map (·.1)) (.ok (.ret r)) s' → wpAny (model prog w) A (load s.heap.objs.size >>= fun o => match o.data with | .seq xs _ => pure xs.toList | _ => unsupported "internal:collect") R E s' := fun s' r y => by
    cases y with
    | mk h' tk acc' c' e e' hk hS' hI => subst e'; exact wpAny_bind (wpAny_load hS' (wpAny_pure (hq h' tk acc' hk (Heap.lt_size hS') hI)))
  refine wpAny_mono key (fun fi s' x => ?_) fun e s' x => by cases x with | mk _ _ _ _ e _ _ _ _ => cases e
  cases fi with
  | done f => cases x with | mk h' tk acc' c' e e' hk hS' hI => cases e; exact fin s' _ (.mk h' tk acc' c' rfl e' hk hS' hI)
  | again c₁ => exact ⟨x.1, codeAny_mono x.2 fun q s₂ y => by cases y with | mk h' tk acc' c' e e' hk hS' hI => subst e; exact fin s₂ _ (.mk h' tk acc' c' rfl e' hk hS' hI)⟩
theorem wp_sortedDict (S : Stat K base mg mb caddr) (X : CtxA n A) (C : Core prog w base caddr μ H s.heap) {i : Id} {v : Value} {es : List (Int × V)} {Q : V → Hp → Prop} (rv : VRel μ s.heap (.obj i) v) (hi : H i = some (.dict ep es)) (hl : es.length ≤ 60)
    (q : newO (.list ((sortI (es.map (·.1))).map V.int)) Q H) : Wp prog w base caddr A (call (.builtin "sorted") [v]) VRel Q μ s := by
  refine Core.dictAt rv C hi fun a kvs m D r z => Calls.call_function_entry kind_sorted plain_sorted entry_sorted (args_sorted1 _) ?_
  unfold Builtin.«sorted»
  refine wpAny_bind (m := checkCount "sorted" 1 1 _) (wpAny_pure ?_)
  refine wpAny_bind (collect_dict (A := A.in1) X.hh (sys_low S C m) D (by rw [r.length]; exact Nat.le_trans z LIM_lt) fun h' tk acc hk hsz hI => ?_)
  have hlen : acc.toList.length = es.length := by rw [hI.length, List.length_map, r.length]
  rw [r.keys] at hI
  refine wpAny_bind (wpAny_newList ?_ (by rw [hlen]; exact Nat.le_trans z LIM_lt))
  have hoL : (h'.push { cls := .type "list", data := .seq acc.toList.toArray }).get? h'.objs.size = some (seqObj "list" acc.toList.toArray 0) := Heap.get?_push_size _ rfl
  refine wpAny_bind (wpAny_holding (wpAny_call_entry slot_list_sort ⟨_, hoL, rfl⟩ entry_list_sort (list_sort_tree hoL hI (by rw [hlen]; exact Nat.lt_of_le_of_lt hl (by decide)) fun out ns' a1 a2 a3 => ⟨_, rfl, ?_⟩) (args_list_sort _)))
  obtain rfl := sortI_eq a2 a3
  obtain ⟨e, he⟩ := sortedHeap_at (vs := acc.toList) (out := out) hoL
  refine wpAny_pure ⟨_, rfl, ?_⟩
  refine newList_end (tk := tk) (items := out) (n := e) C (fun μ' E => VRels.ofInts a1) (sortI_le (by rw [List.length_map]; exact hl)) (fun b o q => ?_) (Nat.le_of_lt hsz) he q
  have hb := Heap.lt_size (hk b o q)
  rw [sortedHeap_old (Nat.ne_of_lt hb) (by rw [Heap.size_push]; exact Nat.lt_succ_of_lt hb)]
  exact Heap.get?_push_of_some _ (hk b o q)
theorem wp_listList (C : Core prog w base caddr μ H s.heap) {i : Id} {v : Value} {xs : List V} {Q : V → Hp → Prop} (rv : VRel μ s.heap (.obj i) v) (hi : H i = some (.list xs)) (q : newO (.list xs) Q H) :
    Wp prog w base caddr A (call (.type "list") [v]) VRel Q μ s := by
  refine Core.listAt rv C hi fun a items n' m l r z => call_list_seq a (.inl rfl) l rfl rfl (fun h' c' hk hS => ?_) (IsL_le r z)
  exact newList_end (tk := s.toks) (items := items) C (fun μ' E => r.ext E) z hk (Nat.le_refl _) hS q
theorem valsOf {kvs : List (Int × Value)} {vs : List Value} (hl : vs.length = kvs.length) (hv : ∀ (j : Nat) (v : Value), vs[j]? = some v → ∃ k, kvs[j]? = some (k, v)) : vs = kvs.map (·.2) := by
  induction kvs generalizing vs with
  | nil => exact List.eq_nil_of_length_eq_zero hl
  | cons p r ih =>
    cases vs with
    | nil => cases hl
    | cons v t =>
      obtain ⟨k, e⟩ := hv 0 v rfl
      cases e
      exact congrArg (v :: ·) (ih (Nat.succ.inj hl) fun j v e => hv (j + 1) v e)
noncomputable def ViewOf (vals : Bool) (μ : Mu) (h : Heap) (i : Id) (v : Value) : Prop := ∃ vw a, v = .ref vw ∧ μ i false = some a ∧ (if vals then h.IsValuesView vw a else h.IsItemsView vw a)
theorem wp_values (S : Stat K base mg mb caddr) (C : Core prog w base caddr μ H s.heap) {i : Id} {v : Value} {es : List (Int × V)} {Q : Id → Hp → Prop} (rv : VRel μ s.heap (.obj i) v) (hi : H i = some (.dict ep es)) (q : Q i H) :
    Wp prog w base caddr A (call (.builtin "dict.values") [v]) (ViewOf true) Q μ s := by
  exact Core.dictAt rv C hi fun a kvs m D r z => call_meetsIn PySem.F.slot_dict_values D.dictOf.typeIs PySem.F.entry_dict_values (PySem.F.args_dict_values_1 _) (meets_dict_values (knd prog w) a (sys_low S C m)) ⟨⟨kvs, D.dictOf⟩,
    .mk _ s.toks μ i H rfl (C.push _) (Ext.push _ _ _) ⟨_, a, rfl, m, ⟨_, Heap.get?_push_size _ rfl, rfl, rfl⟩⟩ q⟩
theorem wp_items (S : Stat K base mg mb caddr) (C : Core prog w base caddr μ H s.heap) {i : Id} {v : Value} {es : List (Int × V)} {Q : Id → Hp → Prop} (rv : VRel μ s.heap (.obj i) v) (hi : H i = some (.dict ep es)) (q : Q i H) :
    Wp prog w base caddr A (call (.builtin "dict.items") [v]) (ViewOf false) Q μ s := by
  exact Core.dictAt rv C hi fun a kvs m D r z => call_meetsIn PySem.F.slot_dict_items D.dictOf.typeIs PySem.F.entry_dict_items (PySem.F.args_dict_items_1 _) (meets_dict_items (knd prog w) a (sys_low S C m)) ⟨⟨kvs, D.dictOf⟩,
    .mk _ s.toks μ i H rfl (C.push _) (Ext.push _ _ _) ⟨_, a, rfl, m, ⟨_, Heap.get?_push_size _ rfl, rfl, rfl⟩⟩ q⟩
theorem wp_listValues (X : CtxA n A) (C : Core prog w base caddr μ H s.heap) {i : Id} {v : Value} {es : List (Int × V)} {Q : V → Hp → Prop} (rv : ViewOf true μ s.heap i v) (hi : H i = some (.dict ep es)) (q : newO (.list (es.map (·.2))) Q H) :
    Wp prog w base caddr A (call (.type "list") [v]) VRel Q μ s := by
  obtain ⟨vw, a, rfl, m, view⟩ := rv
  refine C.dictM hi m fun kvs D r z => kdl_call (kdl_values (knd := knd prog w) (kvs := kvs) (ep := ep)) X.hh ⟨view, D⟩ (by rw [r.length]; exact Nat.le_trans z LIM_lt) fun h' tk acc c hk hS hacc => ?_
  have e : acc.toList = kvs.map (·.2) := valsOf (Array.length_toList.trans hacc.1) fun j v e => hacc.2 j v (Array.getElem?_toList.symm.trans e)
  exact newList_end (tk := tk) (items := acc) C (fun μ' E => by rw [e]; exact r.vals.ext E) (by rw [List.length_map]; exact z) hk (Nat.le_refl _) hS q
theorem rels_items {kvs : List (Int × Value)} {es : List (Int × V)} {as : List Addr} {lo : Addr} {h₀ : Heap} (r : PRel μ h₀ es kvs) (E' : Ext μ h₀ μ' h') (g : KdxG (knd prog w) kvs lo h' as) (hl : as.length = kvs.length) (off : ∀ a ∈ as, ∀ i t, μ' i t ≠ some a) :
    VRels μ' h' (es.map fun p => .tup [.int p.1, p.2]) (as.map Value.ref) := by
  have pr := g.pairs
  clear g
  induction es generalizing kvs as with
  | nil => exact r.nel (fun hl _ => by obtain rfl := List.eq_nil_of_length_eq_zero hl; exact VRels.nil) hl pr
  | cons p es ih =>
    revert hl pr
    refine r.el fun v t rv rt hl pr => ?_
    cases as with
    | nil => cases hl
    | cons a as =>
      obtain ⟨key, k, x, e, hk, ha⟩ := pr 0 a rfl
      cases e
      obtain ⟨tk, rfl⟩ := is_int hk
      exact VRels.cons (VRel.t (items := #[.int p.1 tk, v]) ⟨_, ha, rfl, 0, rfl⟩ (off a (.head _)) (VRels.cons VRel.i (VRels.cons (rv.ext E') VRels.nil)))
        (ih rt (off := fun a ha => off a (.tail _ ha)) (Nat.succ.inj hl) fun j a e => pr (j + 1) a e)
theorem wp_listItems (X : CtxA n A) (C : Core prog w base caddr μ H s.heap) {i : Id} {v : Value} {es : List (Int × V)} {Q : V → Hp → Prop} (rv : ViewOf false μ s.heap i v) (hi : H i = some (.dict ep es)) (q : newO (.list (es.map fun p => .tup [.int p.1, p.2])) Q H) :
    Wp prog w base caddr A (call (.type "list") [v]) VRel Q μ s := by
  obtain ⟨vw, a, rfl, m, view⟩ := rv
  refine C.dictM hi m fun kvs D r z => kdx_call (knd := knd prog w) X.hh view D (by rw [r.length]; exact Nat.le_trans z LIM_lt) fun h' tk acc c as hk hS hl hG hacc => ?_
  obtain ⟨j, hj, q⟩ := q
  obtain ⟨C', E'⟩ := C.newAt (i := j) (o' := .list (es.map fun p => .tup [.int p.1, p.2])) hj hk (Nat.le_refl _) ⟨_, hS⟩ (fun E => .list (Mu.set_self _ _ _ _) hS (by
    rw [hacc]
    exact rels_items r E hG hl fun b hb u t e => Mu.set_el e (fun _ _ z => absurd z (Nat.ne_of_gt (hG.above b hb))) fun e => absurd (C.lt e) (Nat.not_lt.mpr (Nat.le_of_lt (hG.above b hb)))) (by rw [List.length_map]; exact z))
  exact .mk h' tk _ (.obj j) _ rfl C' E' (VRel.o (Mu.set_self _ _ _ _)) q
theorem wp_lenList (C : Core prog w base caddr μ H s.heap) {i : Id} {v : Value} {xs : List V} {Q : V → Hp → Prop} (rv : VRel μ s.heap (.obj i) v) (hi : H i = some (.list xs)) (q : Q (.int xs.length) H) :
    Wp prog w base caddr A (call (.builtin "len") [v]) VRel Q μ s := by
  refine Core.listAt rv C hi fun a items n' m l r z => ?_
  refine Calls.call_function_entry kind_len plain_len entry_len (args_len1 _) (wpAny_len_body_list l.isList (Int.ofNat_lt.mpr (Nat.lt_of_le_of_lt (IsL_size r ▸ z) (by decide))) ?_)
  rw [IsL_size r]
  exact Wp.hereT C VRel.i q
noncomputable def SetSz (_ : Mu) (h : Heap) (m : Nat) (v : Value) : Prop := ∃ a o es ep t, v = .ref a ∧ h.get? a = some o ∧ o.ExactSet ∧ o.data = .set es ep t ∧ t.fits es.size = true ∧ es.size = m ∧ m < 4096
theorem getD_lt {ns : List Int} {j : Nat} (h : j < ns.length) : ns.getD j 0 = ns[j] := by rw [List.getD_eq_getElem?_getD, List.getElem?_eq_getElem h]; rfl
theorem firstMet_nodup {ns : List Int} (hn : ns.Nodup) (j : Nat) (hj : j ≤ ns.length) : firstMet (fun i => ns.getD i 0) j = ns.take j := by
  induction j with
  | zero => exact firstMet_zero _
  | succ j ih =>
    rw [firstMet_succ, ih (Nat.le_of_succ_le hj), getD_lt hj, List.take_add_one, List.getElem?_eq_getElem hj]
    refine if_neg fun z => ?_
    obtain ⟨x, hx, hxe⟩ := List.any_eq_true.mp z
    obtain ⟨m, hm, hme⟩ := List.mem_take_iff_getElem.mp hx
    have e := (List.getElem_inj hn).mp (hme.trans (beq_iff_eq.mp hxe))
    exact absurd hm (by rw [e, Nat.min_eq_left (Nat.le_of_succ_le hj)]; exact Nat.lt_irrefl _)
theorem wp_setList (X : CtxA n A) (C : Core prog w base caddr μ H s.heap) {i : Id} {v : Value} {xs : List V} {ns : List Int} {Q : Nat → Hp → Prop} (rv : VRel μ s.heap (.obj i) v) (hi : H i = some (.list xs)) (hns : intsOf xs = some ns) (hn : ns.Nodup) (hl : ns.length ≤ 1000)
    (q : Q ns.length H) : Wp prog w base caddr A (call (.type "set") [v]) SetSz Q μ s := by
  refine Core.listAt rv C hi fun a items n' m l r z => ?_
  have hI := (intsOf_rel r hns).2
  have e1 : items.size = ns.length := Array.length_toList.symm.trans hI.length
  refine call_set_list X.hh l.isList hI (by rw [e1]; exact Nat.lt_of_le_of_lt (Nat.succ_le_succ hl) (by decide)) fun h' tk hS hk => ?_
  rw [e1, firstMet_nodup hn _ (Nat.le_refl _), List.take_length] at hS
  obtain ⟨o, es, ep, t, ho, hex, hd, _, _, hlt, hf, hsz⟩ := hS
  have hk' : ∀ b o, s.heap.get? b = some o → h'.get? b = some o := fun b o e => hk b o (Heap.lt_size e) e
  exact .mk h' tk μ ns.length H rfl (C.keeps hk') (Ext.keeps μ hk') ⟨_, o, es, ep, t, rfl, ho, hex, hd, hf, hsz, Nat.lt_of_le_of_lt hl (by decide)⟩ q
theorem wp_lenSet (C : Core prog w base caddr μ H s.heap) {m : Nat} {v : Value} {Q : V → Hp → Prop} (rv : SetSz μ s.heap m v) (q : Q (.int m) H) : Wp prog w base caddr A (call (.builtin "len") [v]) VRel Q μ s := by
  obtain ⟨a, o, es, ep, t, rfl, ho, hex, hd, hf, hsz, hm⟩ := rv
  refine call_len_set ho hex hd hf (by lia) ?_
  rw [hsz]
  exact Wp.hereT C VRel.i q
end
end Mine
end
noncomputable section
open PySem PySem.W PyProof.Rows
set_option maxRecDepth 100000
namespace Mine
section
variable {prog : Program} {w : World} {base : Heap} {caddr : Cls → Addr} {K : Frag} {mg mb : Str → Option Value}
variable {A : Around} {E : Value → Shared → Prop} {μ μ' μ'' : Mu} {s : Shared} {h h' h'' : Heap} {H : Hp} {d : Addr} {ep : Nat} {k : Int} {n : Nat}
structure KeepB (X : Nat → Prop) (μ : Mu) (h : Heap) (μ' : Mu) (h' : Heap) : Prop where
  mu : ∀ i t a, μ i t = some a → μ' i t = some a
  fresh : ∀ i t a, μ' i t = some a → μ i t = some a ∨ (h.get? a = none ∧ ∀ j u, μ j u ≠ some a)
  keep : ∀ b o, h.get? b = some o → (∀ i t, μ i t ≠ some b) → ¬ X b → h'.get? b = some o
structure ExtB (X : Nat → Prop) (μ : Mu) (h : Heap) (μ' : Mu) (h' : Heap) : Prop extends KeepB X μ h μ' h' where
  live : ∀ b o, X b → h.get? b = some o → (∀ i t, μ i t ≠ some b) → ∃ o', h'.get? b = some o'
variable {X Y : Nat → Prop}
theorem Ext.toB (x : Ext μ h μ' h') : ExtB X μ h μ' h' := ⟨⟨x.mu, x.fresh, fun b o e n _ => x.keep b o e n⟩, fun b o _ e n => ⟨o, x.keep b o e n⟩⟩
theorem ExtB.toExt (x : ExtB X μ h μ' h') (hX : ∀ b o, X b → h.get? b = some o → False) : Ext μ h μ' h' := ⟨x.mu, x.fresh, fun b o e n => x.keep b o e n fun q => hX b o q e⟩
theorem KeepB.off (x : KeepB X μ h μ' h') {b : Addr} {o : Obj} (hb : h.get? b = some o) (n : ∀ i t, μ i t ≠ some b) : ∀ i t, μ' i t ≠ some b := fun i t e => by
  rcases x.fresh i t b e with q | ⟨q, _⟩
  · exact n i t q
  · rw [q] at hb; cases hb
theorem ExtB.alive (x : ExtB X μ h μ' h') {b : Addr} {o : Obj} (hb : h.get? b = some o) (n : ∀ i t, μ i t ≠ some b) : ∃ o', h'.get? b = some o' := by
  by_cases q : X b
  · exact x.live b o q hb n
  · exact ⟨o, x.keep b o hb n q⟩
theorem ExtB.trans (x : ExtB X μ h μ' h') (y : ExtB X μ' h' μ'' h'') : ExtB X μ h μ'' h'' where
  mu := fun i t a e => y.mu i t a (x.mu i t a e)
  fresh := fun i t a e => by
    rcases y.fresh i t a e with q | ⟨q, n⟩
    · exact x.fresh i t a q
    · have n' : ∀ j u, μ j u ≠ some a := fun j u z => n j u (x.mu j u a z)
      refine .inr ⟨?_, n'⟩
      cases z : h.get? a with
      | none => rfl
      | some o => obtain ⟨o', z'⟩ := x.alive z n'; rw [z'] at q; cases q
  keep := fun b o e n q => y.keep b o (x.keep b o e n q) (x.toKeepB.off e n) q
  live := fun b o q e n => let ⟨_, e'⟩ := x.live b o q e n; y.live b _ q e' (x.toKeepB.off e n)
theorem ExtB.weaken (x : ExtB X μ h μ' h') (hxy : ∀ b, X b → Y b) : ExtB Y μ h μ' h' := ⟨⟨x.mu, x.fresh, fun b o e n q => x.keep b o e n fun z => q (hxy b z)⟩, fun _ _ _ e n => x.alive e n⟩
theorem ExtB.refl : ExtB X μ h μ h := (Ext.refl μ h).toB
noncomputable def NT (X : Nat → Prop) (h : Heap) : Prop := ∀ b o, X b → h.get? b = some o → o.cls = .type "tuple" → ∀ items n, o.data ≠ .seq items n
theorem KeepB.tup (x : KeepB X μ h μ' h') (nt : NT X h) (a : Nat) (items : Array Value) (T : IsTup h a items) (n : ∀ i t, μ i t ≠ some a) : IsTup h' a items ∧ ∀ i t, μ' i t ≠ some a := by
  obtain ⟨o, ho, hc, m, r⟩ := T; exact ⟨⟨o, x.keep a o ho n fun z => nt a o z ho hc _ _ r, hc, m, r⟩, x.off ho n⟩
theorem VRel.keepB (x : KeepB X μ h μ' h') (nt : NT X h) {Z : V} {v : Value} (r : VRel μ h Z v) : VRel μ' h' Z v := r.gen x.mu (x.tup nt)
theorem VRels.keepB (x : KeepB X μ h μ' h') (nt : NT X h) {Zs : List V} {vs : List Value} (r : VRels μ h Zs vs) : VRels μ' h' Zs vs := r.gen x.mu (x.tup nt)
theorem VRel.extB (x : ExtB X μ h μ' h') (nt : NT X h) {Z : V} {v : Value} (r : VRel μ h Z v) : VRel μ' h' Z v := r.keepB x.toKeepB nt
theorem VRels.extB (x : ExtB X μ h μ' h') (nt : NT X h) {Zs : List V} {vs : List Value} (r : VRels μ h Zs vs) : VRels μ' h' Zs vs := r.keepB x.toKeepB nt
theorem Core.but (C : Core prog w base caddr μ H h) (k : ∀ b o, h.get? b = some o → ¬ X b → h'.get? b = some o) (nt : NT X h) (off : ∀ b o, X b → h.get? b = some o → base.get? b = none ∧ ∀ i t, μ i t ≠ some b) :
    Core prog w base caddr μ H h' := by
  have kk : ∀ i t a o, μ i t = some a → h.get? a = some o → h'.get? a = some o := fun i t a o m q => k a o q fun x => (off a o x q).2 i t m
  refine ⟨fun i o ho => (C.objs i o ho).each (fun _ _ _ e => e) (VRel.keepB ⟨fun _ _ _ e => e, fun _ _ _ e => .inl e, fun b o q _ n => k b o q n⟩ nt) (kk i), C.dom, C.inj, fun i t a q => ?_, fun b o q => ?_, C.low⟩
  · obtain ⟨h1, h2, o, h3⟩ := C.off i t a q
    exact ⟨h1, h2, o, kk i t a o q h3⟩
  · have hb := C.bas b o q
    exact k b o hb fun x => by rw [(off b o x hb).1] at q; cases q
noncomputable def envX (env : PySem.Env) (b : Nat) : Prop := b = env.locals ∨ ∃ x, (x, b) ∈ env.cells
noncomputable def isVar (env : PySem.Env) (x : String) : Prop := x ≠ ".0" ∧ (env.kindOf (Str.ofString x) = some .local ∨ env.kindOf (Str.ofString x) = some .cell)
structure EnvOk (base : Heap) (env : PySem.Env) (μ : Mu) (h : Heap) (ρ : Env) : Prop where
  kind : env.scope.kind = .function
  glob : env.globals = mainGlobals
  blt : env.builtins = builtinsNs
  off : ∀ b, envX env b → base.get? b = none ∧ (∀ i t, μ i t ≠ some b)
  sep : ∀ x c, (x, c) ∈ env.cells → c ≠ env.locals
  inj : ∀ x y c, (x, c) ∈ env.cells → (y, c) ∈ env.cells → x = y
  cells : ∀ x c, (x, c) ∈ env.cells → ∃ o v, h.get? c = some o ∧ o.data = .cell v
  cell : ∀ x, env.kindOf x = some .cell → ∃ c, env.cells.lookup x = some c
  vars : ∃ m, h.Ns env.locals m ∧ ∀ x Z, ρ x = some Z → isVar env x → ∃ v, VRel μ h Z v ∧
    ((env.kindOf (Str.ofString x) = some .local ∧ m (Str.ofString x) = some v) ∨
     (env.kindOf (Str.ofString x) = some .cell ∧ ∃ c o, env.cells.lookup (Str.ofString x) = some c ∧ h.get? c = some o ∧ o.data = .cell (some v)))
theorem lookup_mem {α β : Type} [BEq α] [LawfulBEq α] {l : List (α × β)} {x : α} {c : β} (h : l.lookup x = some c) : (x, c) ∈ l := by
  induction l with
  | nil => cases h
  | cons p r ih => exact lookup_el h (fun h1 h2 => by rw [h1, ← h2]; exact .head _) fun _ h2 => .tail _ (ih h2)
theorem EnvOk.nt {env : PySem.Env} {ρ : Env} (e : EnvOk base env μ h ρ) : NT (envX env) h := fun b o hb ho _ items n hd => by
  rcases hb with rfl | ⟨y, hy⟩
  · obtain ⟨m, ⟨oL, _, _, hoL, hdL, _⟩, _⟩ := e.vars
    rw [hoL] at ho; cases ho; rw [hd] at hdL; cases hdL
  · obtain ⟨o', v, h1, h2⟩ := e.cells y b hy
    rw [h1] at ho; cases ho; rw [hd] at h2; cases h2
theorem EnvOk.alive {env : PySem.Env} {ρ : Env} (e : EnvOk base env μ h ρ) {b : Nat} (hb : envX env b) : ∃ o, h.get? b = some o := by
  rcases hb with rfl | ⟨y, hy⟩
  · obtain ⟨m, ⟨oL, _, _, hoL, _⟩, _⟩ := e.vars; exact ⟨_, hoL⟩
  · obtain ⟨o, v, h1, _⟩ := e.cells y b hy; exact ⟨o, h1⟩
theorem EnvOk.offs {env : PySem.Env} {ρ : Env} (e : EnvOk base env μ h ρ) (x : ExtB X μ h μ' h') : ∀ b, envX env b → base.get? b = none ∧ (∀ i t, μ' i t ≠ some b) := fun b hb =>
  ⟨(e.off b hb).1, let ⟨_, z⟩ := e.alive hb; x.toKeepB.off z (e.off b hb).2⟩
theorem EnvOk.extB {env : PySem.Env} {ρ : Env} (e : EnvOk base env μ h ρ) (x : ExtB X μ h μ' h') (nt : NT X h) (nx : ∀ b, envX env b → ¬ X b) : EnvOk base env μ' h' ρ where
  kind := e.kind
  glob := e.glob
  blt := e.blt
  off := e.offs x
  sep := e.sep
  inj := e.inj
  cells := fun y c hy => let ⟨o, v, h1, h2⟩ := e.cells y c hy; ⟨o, v, x.keep c o h1 (e.off c (.inr ⟨y, hy⟩)).2 (nx c (.inr ⟨y, hy⟩)), h2⟩
  cell := e.cell
  vars := by
    obtain ⟨m, hn, hv⟩ := e.vars
    refine ⟨m, ?_, fun y Z hy hk => ?_⟩
    · obtain ⟨o, es, ep, ho, r⟩ := hn
      exact ⟨o, es, ep, x.keep _ o ho (e.off _ (.inl rfl)).2 (nx _ (.inl rfl)), r⟩
    · obtain ⟨v, rv, q⟩ := hv y Z hy hk
      refine ⟨v, rv.extB x nt, q.imp id fun ⟨hk, c, o, h1, h2, h3⟩ => ⟨hk, c, o, h1, x.keep c o h2 (e.off c (.inr ⟨_, lookup_mem h1⟩)).2 (nx c (.inr ⟨_, lookup_mem h1⟩)), h3⟩⟩
theorem EnvOk.ext {env : PySem.Env} {ρ : Env} (e : EnvOk base env μ h ρ) (x : Ext μ h μ' h') : EnvOk base env μ' h' ρ :=
  e.extB (X := fun _ => False) x.toB (fun _ _ q => q.elim) fun _ _ => id
theorem EnvOk.mono {env : PySem.Env} {ρ ρ' : Env} (e : EnvOk base env μ h ρ) (q : ∀ x Z, isVar env x → ρ' x = some Z → ρ x = some Z) : EnvOk base env μ h ρ' :=
  { e with vars := let ⟨m, hn, hv⟩ := e.vars; ⟨m, hn, fun x Z hx hk => hv x Z (q x Z hk hx) hk⟩ }
theorem wp_var (C : Core prog w base caddr μ H s.heap) {env : PySem.Env} {ρ : Env} (e : EnvOk base env μ s.heap ρ) {x : String} {Z : V} {pos : Pos} {Q : V → Hp → Prop} (hx : ρ x = some Z) (hk : isVar env x) (hd : (Str.ofString x == ("__debug__" : Str)) = false) (q : Q Z H) :
    Wp prog w base caddr A (eval (.Name (Str.ofString x) pos) env) VRel Q μ s := by
  obtain ⟨m, hn, hv⟩ := e.vars
  obtain ⟨v, rv, c⟩ := hv x Z hx hk
  refine wpAny_Name ?_ hd
  rcases c with ⟨hk, hm⟩ | ⟨hk, c, o, h1, h2, h3⟩
  · exact wpAny_loadName_local e.kind hk hn hm (Wp.here C rv q)
  · exact wpAny_loadName_cell e.kind hk h1 ⟨o, h2, h3⟩ (Wp.here C rv q)
inductive EndS (prog : Program) (w : World) (base : Heap) (caddr : Cls → Addr) (env : PySem.Env) (μ : Mu) (s : Shared) (P : Mu → Heap → Env → Hp → Prop) (s' : Shared) : Prop
  | mk (h' : Heap) (tk : Nat) (μ' : Mu) (ρ' : Env) (H' : Hp) (e : s' = { s with heap := h', toks := tk }) (C : Core prog w base caddr μ' H' h') (X : ExtB (envX env) μ s.heap μ' h') (eo : EnvOk base env μ' h' ρ') (p : P μ' h' ρ' H')
@[elab_as_elim] theorem EndS.el {env : PySem.Env} {P : Mu → Heap → Env → Hp → Prop} {s' : Shared} {R : Shared → Prop} (z : EndS prog w base caddr env μ s P s')
    (k : ∀ h' tk μ' ρ' H', Core prog w base caddr μ' H' h' → ExtB (envX env) μ s.heap μ' h' → EnvOk base env μ' h' ρ' → P μ' h' ρ' H' → R { s with heap := h', toks := tk }) : R s' := by
  cases z with
  | mk h' tk μ' ρ' H' e C X eo p => subst e; exact k h' tk μ' ρ' H' C X eo p
theorem one_B {X : Nat → Prop} {c : Nat} (hx : X c) (k : ∀ b o, h.get? b = some o → b ≠ c → h'.get? b = some o) (l : ∃ o, h'.get? c = some o) : ExtB X μ h μ h' :=
  ⟨⟨fun _ _ _ e => e, fun _ _ _ e => .inl e, fun b o e _ nx => k b o e fun q => nx (q ▸ hx)⟩, fun b o _ e _ => by
    by_cases q : b = c
    · subst q; exact l
    · exact ⟨o, k b o e q⟩⟩
theorem ns_get {a : Nat} {m : Str → Option Value} (n : h.Ns a m) : ∃ o, h.get? a = some o := by obtain ⟨o, _, _, ho, _⟩ := n; exact ⟨o, ho⟩
theorem EnvOk.local {env : PySem.Env} {ρ : Env} (e : EnvOk base env μ h ρ) {x : String} {Z : V} {v : Value} {m m' : Str → Option Value} (rv : VRel μ h Z v) (hk : env.kindOf (Str.ofString x) = some .local)
    (hv : ∀ x Z, ρ x = some Z → isVar env x → ∃ v, VRel μ h Z v ∧
      ((env.kindOf (Str.ofString x) = some .local ∧ m (Str.ofString x) = some v) ∨ (env.kindOf (Str.ofString x) = some .cell ∧ ∃ c o, env.cells.lookup (Str.ofString x) = some c ∧ h.get? c = some o ∧ o.data = .cell (some v))))
    (hn : h'.Ns env.locals m') (hx : m' (Str.ofString x) = some v) (hm : ∀ y, y ≠ Str.ofString x → m' y = m y) (hs : Heap.SameBut env.locals h h') (E : ExtB (fun b => b = env.locals) μ h μ h') (nt : NT (fun b => b = env.locals) h) :
    EnvOk base env μ h' (ρ.upd x Z) := by
  refine ⟨e.kind, e.glob, e.blt, e.off, e.sep, e.inj, fun y c hy => ?_, e.cell, m', hn, fun y Y hy hky => ?_⟩
  · obtain ⟨o, v, h1, h2⟩ := e.cells y c hy
    exact ⟨o, v, (hs.2 c (e.sep y c hy)).trans h1, h2⟩
  · unfold Env.upd at hy
    by_cases hyx : y = x
    · subst hyx; rw [if_pos rfl] at hy; cases hy
      exact ⟨v, rv.extB E nt, .inl ⟨hk, hx⟩⟩
    · rw [if_neg hyx] at hy
      obtain ⟨u, ru, c⟩ := hv y Y hy hky
      exact ⟨u, ru.extB E nt, c.imp (fun z => ⟨z.1, (hm _ fun q => hyx (str_ofString_inj q)).trans z.2⟩) fun ⟨h1, c, o, h2, h3, h4⟩ => ⟨h1, c, o, h2, (hs.2 c (e.sep _ c (lookup_mem h2))).trans h3, h4⟩⟩
theorem st_local {E : Value → Shared → Prop} (C : Core prog w base caddr μ H s.heap) {env : PySem.Env} {ρ : Env} (e : EnvOk base env μ s.heap ρ) {x : String} {Z : V} {v : Value} {P : Unit → Shared → Prop} (rv : VRel μ s.heap Z v)
    (hk : env.kindOf (Str.ofString x) = some .local)
    (q : ∀ h' tk, Core prog w base caddr μ H h' → Heap.SameBut env.locals s.heap h' → (∃ o, h'.get? env.locals = some o) → EnvOk base env μ h' (ρ.upd x Z) → ExtB (fun b => b = env.locals) μ s.heap μ h' → NT (fun b => b = env.locals) s.heap → P () { s with heap := h', toks := tk }) :
    wpAny (model prog w) A (storeName env (Str.ofString x) v) P E s := by
  obtain ⟨m, hn, hv⟩ := e.vars
  refine wpAny_storeName_local hk hn (fun h' hn' hs => ?_) (by rw [e.kind]; rfl)
  have nt : NT (fun b => b = env.locals) s.heap := fun b o hb ho => e.nt b o (.inl hb) ho
  have l := ns_get hn'
  have E' : ExtB (fun b => b = env.locals) μ s.heap μ h' := one_B rfl (fun b o q n => (hs.2 b n).trans q) l
  exact q h' _ (C.but (X := fun b => b = env.locals) (fun b o q n => (hs.2 b n).trans q) nt fun b _ hb _ => e.off b (.inl hb)) hs l (e.local rv hk hv hn' (if_pos rfl) (fun y hy => if_neg hy) hs E' nt) E' nt
theorem st_var (C : Core prog w base caddr μ H s.heap) {env : PySem.Env} {ρ : Env} (e : EnvOk base env μ s.heap ρ) {x : String} {Z : V} {v : Value} {P : Mu → Heap → Env → Hp → Prop} (rv : VRel μ s.heap Z v)
    (hk : isVar env x) (q : ∀ h', P μ h' (ρ.upd x Z) H) :
    wpAny (model prog w) A (storeName env (Str.ofString x) v) (fun _ => EndS prog w base caddr env μ s P) E s := by
  rcases hk.2 with hk | hk
  · exact st_local C e rv hk fun h' tk C' _ _ eo E' _ => .mk h' tk μ _ H rfl C' (E'.weaken fun b hb => .inl hb) eo (q h')
  · obtain ⟨c, hc⟩ := e.cell _ hk
    have hcm := lookup_mem hc
    obtain ⟨o, v₀, ho, hd⟩ := e.cells _ c hcm
    refine wpAny_storeName_cell e.kind hk hc ⟨o, ho, hd⟩ fun h' hcell hs => ?_
    obtain ⟨o', ho', hd'⟩ := hcell
    have nt : NT (fun b => b = c) s.heap := fun b o hb ho => e.nt b o (.inr ⟨_, hb ▸ hcm⟩) ho
    have E' : ExtB (fun b => b = c) μ s.heap μ h' := one_B rfl (fun b o q n => (hs.2 b n).trans q) ⟨o', ho'⟩
    obtain ⟨m, hn, hv⟩ := e.vars
    refine .mk h' s.toks μ (ρ.upd x Z) H rfl (C.but (X := fun b => b = c) (fun b o q n => (hs.2 b n).trans q) nt fun b _ hb _ => hb ▸ e.off c (.inr ⟨_, hcm⟩)) (E'.weaken fun b hb => .inr ⟨_, hb ▸ hcm⟩)
      ⟨e.kind, e.glob, e.blt, e.off, e.sep, e.inj, fun y d hy => ?_, e.cell, m, hn.sameBut hs (Ne.symm (e.sep _ c hcm)), fun y Y hy hky => ?_⟩ (q h')
    · by_cases hdc : d = c
      · subst hdc; exact ⟨o', some v, ho', hd'⟩
      · obtain ⟨o, v, h1, h2⟩ := e.cells y d hy
        exact ⟨o, v, (hs.2 d hdc).trans h1, h2⟩
    · unfold Env.upd at hy
      by_cases hyx : y = x
      · subst hyx; rw [if_pos rfl] at hy; cases hy
        exact ⟨v, rv.extB E' nt, .inr ⟨hk, c, o', hc, ho', hd'⟩⟩
      · rw [if_neg hyx] at hy
        obtain ⟨u, ru, z⟩ := hv y Y hy hky
        exact ⟨u, ru.extB E' nt, z.imp id fun ⟨h1, d, o₂, h2, h3, h4⟩ => ⟨h1, d, o₂, h2, (hs.2 d fun q => hyx (str_ofString_inj (e.inj _ _ c (q ▸ lookup_mem h2) hcm))).trans h3, h4⟩⟩
end
end Mine
end
noncomputable section
open PySem PySem.W PyProof.Rows
set_option maxRecDepth 100000
namespace Mine
section
variable {prog : Program} {w : World} {base : Heap} {caddr : Cls → Addr} {K : Frag} {mg mb : Str → Option Value}
variable {A : Around} {E : Value → Shared → Prop} {μ μ' : Mu} {s : Shared} {h h' : Heap} {H : Hp} {n : Nat}
structure Walker (prog : Program) (w : World) (base : Heap) (caddr : Cls → Addr) (A : Around) (I : Nat) (μ₀ : Mu) (H₀ : Hp) (items : List V) (keep : Option Id) (St : Nat → Heap → Prop) : Prop where
  live : ∀ j h, St j h → ∃ o, h.get? I = some o ∧ ∀ items n, o.data ≠ .seq items n
  frame : ∀ j h h', St j h → (∀ o, h.get? I = some o → h'.get? I = some o) → St j h'
  self : ∀ j (s : Shared) (Q : Value → Shared → Prop) (E : Value → Shared → Prop), St j s.heap → Q (.ref I) s → wpAny (model prog w) A (pyIter (.ref I)) Q E s
  item : ∀ j Z μ H (s : Shared) (Q : Option Value → Shared → Prop) (E : Value → Shared → Prop), items[j]? = some Z → Core prog w base caddr μ H s.heap → (∀ i t a, μ₀ i t = some a → μ i t = some a) → staysO H₀ H keep → (∀ i t, μ i t ≠ some I) → St j s.heap →
    (∀ v h' tk, VRel μ s.heap Z v → St (j + 1) h' → (∀ b o, s.heap.get? b = some o → b ≠ I → h'.get? b = some o) → Q (some v) { s with heap := h', toks := tk }) → wpAny (model prog w) A (pyNext (.ref I)) Q E s
  done : ∀ μ H (s : Shared) (Q : Option Value → Shared → Prop) (E : Value → Shared → Prop), Core prog w base caddr μ H s.heap → (∀ i t a, μ₀ i t = some a → μ i t = some a) → staysO H₀ H keep → (∀ i t, μ i t ≠ some I) → St items.length s.heap →
    (∀ h' tk, (∀ b o, s.heap.get? b = some o → b ≠ I → h'.get? b = some o) → Q none { s with heap := h', toks := tk }) → wpAny (model prog w) A (pyNext (.ref I)) Q E s
inductive IterP (prog : Program) (w : World) (base : Heap) (caddr : Cls → Addr) (A : Around) (μ : Mu) (H : Hp) (s : Shared) (items : List V) (keep : Option Id) (it : Value) (s' : Shared) : Prop
  | mk (I : Nat) (St : Nat → Heap → Prop) (h' : Heap) (tk : Nat) (e : it = .ref I) (e' : s' = { s with heap := h', toks := tk }) (n : s.heap.get? I = none) (C : Core prog w base caddr μ H h') (E : Ext μ s.heap μ h') (off : ∀ i t, μ i t ≠ some I)
      (b : base.get? I = none) (W : Walker prog w base caddr A I μ H items keep St) (st : St 0 h')
theorem iterP_push {o : Obj} {items : List V} {keep : Option Id} {St : Nat → Heap → Prop} (C : Core prog w base caddr μ H s.heap) (W : Walker prog w base caddr A s.heap.objs.size μ H items keep St) (st : St 0 (s.heap.push o)) :
    IterP prog w base caddr A μ H s items keep (.ref s.heap.objs.size) { s with heap := s.heap.push o } :=
  .mk _ St _ s.toks rfl rfl (get?_size _) (C.push _) (Ext.push _ _ _) (C.ne_new (get?_size _)) (C.new_base (get?_size _)) W st
theorem IterP.under {o : Obj} {tk : Nat} {items : List V} {keep : Option Id} {it : Value} {s' : Shared} (z : IterP prog w base caddr A μ H { s with heap := s.heap.push o, toks := tk } items keep it s') : IterP prog w base caddr A μ H s items keep it s' := by
  cases z with
  | mk I St h' tk' e e' n C E off b W st =>
    refine .mk I St h' tk' e e' ?_ C ((Ext.push _ _ _).trans E) off b W st
    cases q : s.heap.get? I with
    | none => rfl
    | some o => exact absurd ((Heap.get?_push_of_some _ q).symm.trans n) (fun z => nomatch z)
theorem PRel.nth {es : List (Int × V)} {kvs : List (Int × Value)} {j : Nat} {p : Int × V} (r : PRel μ h es kvs) (hj : es[j]? = some p) : ∃ v, kvs[j]? = some (p.1, v) ∧ VRel μ h p.2 v := by
  induction es generalizing kvs j with
  | nil => cases hj
  | cons q es ih =>
    refine r.el fun v t a b => ?_
    cases j with
    | zero => cases hj; exact ⟨v, rfl, a⟩
    | succ j => exact ih (j := j) b hj
theorem walker_list (hh : A.handled = none) {I a : Nat} {i : Id} {xs : List V} (m₀ : μ i false = some a) (hH : H i = some (.list xs)) :
    Walker prog w base caddr A I μ H xs (some i) (fun j h => h.IsListIter I a j) where
  self := fun _ _ _ _ st q => wpAny_pyIter_listiter st q
  live := fun j h ⟨o, ho, _, hd⟩ => ⟨o, ho, fun items n e => by rw [hd] at e; cases e⟩
  frame := fun j h h' ⟨o, ho, r⟩ k => ⟨o, k o ho, r⟩
  item := fun j Z μ' H' s Q E hj C hm hk off st q => C.listM ((show H' i = H i from hk).trans hH) (hm _ _ _ m₀) fun items n l r _ => by
    obtain ⟨v, hv, rv⟩ := r.get hj
    exact wpAny_pyNext_list_item st ⟨_, l, rfl, n, rfl⟩ (x := v) (Array.getElem?_toList.symm.trans hv) fun h' st' hs => q v h' s.toks rv st' fun b o e ne => (hs.2 b ne).trans e
  done := fun μ' H' s Q E C hm hk off st q => C.listM ((show H' i = H i from hk).trans hH) (hm _ _ _ m₀) fun items n l r _ =>
    wpAny_pyNext_list_end hh st ⟨_, l, rfl, n, rfl⟩ (Array.getElem?_eq_none (Nat.le_of_eq (IsL_size r))) fun h' he => q h' s.toks fun b o e ne => he b o ne e
theorem walker_keys (hh : A.handled = none) {I a ep : Nat} {i : Id} {es : List (Int × V)} (m₀ : μ i false = some a) (hH : H i = some (.dict ep es)) :
    Walker prog w base caddr A I μ H (es.map fun p => .int p.1) (some i) (fun j h => h.IsKeyIter I a j es.length ep) where
  self := fun _ _ _ _ st q => wpAny_pyIter_keyiter st q
  live := fun j h ⟨o, ho, _, hd⟩ => ⟨o, ho, fun items n e => by rw [hd] at e; cases e⟩
  frame := fun j h h' ⟨o, ho, r⟩ k => ⟨o, k o ho, r⟩
  item := fun j Z μ' H' s Q E hj C hm hk off st q => C.dictM ((show H' i = H i from hk).trans hH) (hm _ _ _ m₀) fun kvs D r _ => by
    rw [List.getElem?_map] at hj
    obtain ⟨p, hp, rfl⟩ := Option.map_eq_some_iff.mp hj
    obtain ⟨v, hv, _⟩ := r.nth hp
    have hl := r.length
    rw [← hl] at st q
    refine wpAny_pyNext_dict_item (knd := knd prog w) st D hv fun key h' hkey st' hs => ?_
    obtain ⟨t, rfl⟩ := is_int hkey
    exact q _ h' s.toks VRel.i st' fun b o e ne => (hs.2 b ne).trans e
  done := fun μ' H' s Q E C hm hk off st q => C.dictM ((show H' i = H i from hk).trans hH) (hm _ _ _ m₀) fun kvs D r _ => by
    rw [← r.length, List.length_map, ← r.length] at st
    exact wpAny_pyNext_dict_end (knd := knd prog w) hh st D (List.getElem?_eq_none (Nat.le_refl _)) fun h' he => q h' s.toks fun b o e ne => he b o ne e
theorem walker_values (hh : A.handled = none) {I a ep : Nat} {i : Id} {es : List (Int × V)} (m₀ : μ i false = some a) (hH : H i = some (.dict ep es)) :
    Walker prog w base caddr A I μ H (es.map (·.2)) (some i) (fun j h => h.IsValIter I a j es.length ep) where
  self := fun _ _ _ _ st q => wpAny_pyIter_valiter st q
  live := fun j h ⟨o, ho, _, hd⟩ => ⟨o, ho, fun items n e => by rw [hd] at e; cases e⟩
  frame := fun j h h' ⟨o, ho, r⟩ k => ⟨o, k o ho, r⟩
  item := fun j Z μ' H' s Q E hj C hm hk off st q => C.dictM ((show H' i = H i from hk).trans hH) (hm _ _ _ m₀) fun kvs D r _ => by
    rw [List.getElem?_map] at hj
    obtain ⟨p, hp, rfl⟩ := Option.map_eq_some_iff.mp hj
    obtain ⟨v, hv, rv⟩ := r.nth hp
    have hl := r.length
    rw [← hl] at st q
    exact wpAny_pyNext_values_item (knd := knd prog w) st D hv fun h' st' hs => q v h' s.toks rv st' fun b o e ne => (hs.2 b ne).trans e
  done := fun μ' H' s Q E C hm hk off st q => C.dictM ((show H' i = H i from hk).trans hH) (hm _ _ _ m₀) fun kvs D r _ => by
    rw [← r.length, List.length_map, ← r.length] at st
    exact wpAny_pyNext_values_end (knd := knd prog w) hh st D (List.getElem?_eq_none (Nat.le_refl _)) fun h' he => q h' s.toks fun b o e ne => he b o ne e
theorem walker_rev (hh : A.handled = none) {I a : Nat} {i : Id} {xs : List V} (m₀ : μ i false = some a) (hH : H i = some (.list xs)) :
    Walker prog w base caddr A I μ H xs.reverse (some i) (fun j h => j ≤ xs.length ∧ h.IsRevIter I a ((xs.length : Int) - 1 - (j : Int))) where
  self := fun _ _ _ _ st q => wpAny_pyIter_revIter st.2 q
  live := fun j h ⟨_, o, ho, _, hd⟩ => ⟨o, ho, fun items n e => by rw [hd] at e; cases e⟩
  frame := fun j h h' ⟨z, o, ho, r⟩ k => ⟨z, o, k o ho, r⟩
  item := fun j Z μ' H' s Q E hj C hm hk off st q => C.listM ((show H' i = H i from hk).trans hH) (hm _ _ _ m₀) fun items n l r _ => by
    have hjl : j < xs.length := List.length_reverse ▸ (List.getElem?_eq_some_iff.mp hj).1
    rw [List.getElem?_reverse hjl] at hj
    obtain ⟨v, hv, rv⟩ := r.get hj
    have e1 : ((xs.length : Int) - 1 - (j : Int)) = ((xs.length - 1 - j : Nat) : Int) := by lia
    rw [e1] at st
    refine wpAny_pyNext_rev_item st.2 ⟨_, l, rfl, n, rfl⟩ (x := v) (Array.getElem?_toList.symm.trans hv) fun h' st' hs => q v h' s.toks rv ⟨hjl, ?_⟩ fun b o e ne => (hs.2 b ne).trans e
    rw [Int.natCast_add, ← Int.sub_sub, e1]; exact st'
  done := fun μ' H' s Q E C hm hk off st q => by
    have st' := st.2
    rw [List.length_reverse, show ((xs.length : Int) - 1 - (xs.length : Int)) = -1 by lia] at st'
    exact wpAny_pyNext_rev_end hh st' fun h' he => q h' s.toks fun b o e ne => he b o ne e
theorem walker_range (hh : A.handled = none) {I N : Nat} :
    Walker prog w base caddr A I μ H ((List.range N).map fun (j : Nat) => V.int (j : Int)) none (fun j h => IsRangeIter h I (0 + (j : Nat) * 1) ((N : Int) - (j : Nat)) 1) where
  self := fun _ _ _ _ st q => wpAny_pyIter_rangeiter st q
  live := fun j h st => ⟨_, st, fun items n e => by cases e⟩
  frame := fun j h h' st k => k _ st
  item := fun j Z μ' H' s Q E hj C hm hk off st q => by
    rw [List.getElem?_map] at hj
    obtain ⟨p, hp, rfl⟩ := Option.map_eq_some_iff.mp hj
    obtain ⟨hjl, e⟩ := List.getElem?_eq_some_iff.mp hp
    rw [List.getElem_range] at e; subst e
    rw [List.length_range] at hjl
    refine (Walks.range hh I 0 1 N).item j s Q E hjl st fun v h' tk hv st' ke => q v h' tk ?_ st' fun b o e ne => ke b o (fun z => ne (List.mem_singleton.mp z)) e
    obtain ⟨t, rfl⟩ := hv
    rw [Int.mul_one, Int.zero_add]
    exact VRel.i
  done := fun μ' H' s Q E C hm hk off st q => by
    rw [List.length_map, List.length_range] at st
    exact (Walks.range hh I 0 1 N).done s Q E st fun h' tk ke => q h' tk fun b o e ne => ke b o (fun z => ne (List.mem_singleton.mp z)) e
theorem wp_iterPlain (S : Stat K base mg mb caddr) (hh : A.handled = none) {Z : V} {v : Value} {items : List V} {keep : Option Id} (C : Core prog w base caddr μ H s.heap) (rv : VRel μ s.heap Z v) (hs : srcOf .plain H Z = some (items, keep)) :
    wpAny (model prog w) A (pyIter v) (IterP prog w base caddr A μ H s items keep) E s := by
  refine objV_el hs fun i hZ hs => ?_
  subst hZ
  have hs : srcP i (H i) = some (items, keep) := hs
  generalize hi : H i = o at hs
  cases o with
  | none => cases hs
  | some o => cases o with
    | inst _ _ => cases hs
    | list xs => cases hs; exact Core.listAt rv C hi fun a its n m l r _ => wpAny_pyIter_list ⟨_, l, rfl, n, rfl⟩ (iterP_push C (walker_list hh m hi) ⟨_, Heap.get?_push_size _ rfl, rfl, rfl⟩)
    | dict ep es => cases hs; exact Core.dictAt rv C hi fun a kvs m D r z => wpAny_pyIter_dict (sys_low S C m) D (iterP_push C (walker_keys hh m hi) ⟨_, Heap.get?_push_size _ rfl, rfl, by rw [r.length]; rfl⟩)
theorem wp_iterRev (hh : A.handled = none) {Z : V} {v : Value} {items : List V} {keep : Option Id} (C : Core prog w base caddr μ H s.heap) (rv : VRel μ s.heap Z v) (hs : srcOf .rev H Z = some (items, keep)) :
    wpAny (model prog w) A (call (.type "reversed") [v]) (fun x s₁ => wpAny (model prog w) A (pyIter x) (IterP prog w base caddr A μ H s items keep) E s₁) E s := by
  refine objV_el hs fun i hZ hs => listP_el hs fun xs hi e => ?_
  subst hZ; cases e
  refine Core.listAt rv C hi fun a its n m l r _ => call_reversed_list ⟨_, l, rfl, n, rfl⟩ ?_
  have st : (s.heap.push (revObj a ((its.size : Int) - 1))).IsRevIter s.heap.objs.size a ((xs.length : Int) - 1 - ((0 : Nat) : Int)) := by
    rw [IsL_size r]
    exact ⟨_, Heap.get?_push_size _ rfl, rfl, by rw [Int.natCast_zero, Int.sub_zero]; rfl⟩
  exact wpAny_pyIter_revIter (s := { s with heap := s.heap.push (revObj a ((its.size : Int) - 1)) }) st (iterP_push C (walker_rev hh m hi) ⟨Nat.zero_le _, st⟩)
theorem wp_iterValues (hh : A.handled = none) {Z : V} {v : Value} {items : List V} {keep : Option Id} (S : Stat K base mg mb caddr) (C : Core prog w base caddr μ H s.heap) (rv : VRel μ s.heap Z v) (hs : srcOf .values H Z = some (items, keep)) :
    wpAny (model prog w) A (call (.builtin "dict.values") [v]) (fun x s₁ => wpAny (model prog w) A (pyIter x) (IterP prog w base caddr A μ H s items keep) E s₁) E s := by
  refine objV_el hs fun i hZ hs => dictP_el hs fun ep es hi e => ?_
  subst hZ; cases e
  refine Core.dictAt rv C hi fun a kvs m D r z => call_meetsIn PySem.F.slot_dict_values D.dictOf.typeIs PySem.F.entry_dict_values (PySem.F.args_dict_values_1 _) (meets_dict_values (knd prog w) a (sys_low S C m)) ⟨⟨kvs, D.dictOf⟩, ?_⟩
  refine wpAny_pyIter_values (knd := knd prog w) (s := { s with heap := s.heap.push { cls := .type "dict_values", data := .fields #[.ref a] } }) ⟨_, Heap.get?_push_size _ rfl, rfl, rfl⟩ (D.push _) (IterP.under (s := s) (tk := s.toks) (o := { cls := .type "dict_values", data := .fields #[.ref a] }) ?_)
  exact iterP_push (s := { s with heap := s.heap.push { cls := .type "dict_values", data := .fields #[.ref a] } }) (C.push _) (walker_values hh m hi) ⟨_, Heap.get?_push_size _ rfl, rfl, by rw [r.length]; rfl⟩
end
end Mine
end
noncomputable section
open PySem PySem.W PyProof.Rows
set_option maxRecDepth 100000
namespace Mine
noncomputable abbrev Names := List (Str × NameKind)
noncomputable def kOf (N : Names) (x : String) : Option NameKind := N.lookup (Str.ofString x)
noncomputable def isV (N : Names) (x : String) : Bool := x != ".0" && (kOf N x == some .local || kOf N x == some .cell)
noncomputable def isG (N : Names) (x : String) : Bool := kOf N x == some .globalImplicit
noncomputable def relabN (N M : Names) : Names := M.map fun p => if p.2 == .free && N.lookup p.1 == some .cell then (p.1, .cell) else p
noncomputable def dbg (x : String) : Bool := Str.ofString x == ("__debug__" : Str)
structure Nd where
  s : Str := default
  es : List Expr := []
  b : Bool := true
  p : Pos := default
  c : Const := .none
  uop : UnaryOp := .Not
  bop : BoolOp := .And
  op : Operator := .Add
  os : List CmpOp := []
  lo : Option Expr := none
  up : Option Expr := none
  g : List Comprehension := []
  sc : Scope := default
noncomputable def nd : Expr → Nd
  | .Name id p => { s := id, p := p }
  | .Constant c _ _ => { c := c }
  | .Attribute v id p => { s := id, es := [v], p := p }
  | .Subscript v j _ => { es := [v, j] }
  | .Tuple xs _ _ => { es := xs }
  | .List xs _ => { es := xs }
  | .Dict ks vs _ => { b := ks.isEmpty && vs.isEmpty }
  | .Call f xs ks p => { es := f :: xs, b := ks.isEmpty, p := p }
  | .Compare l os rs _ => { es := l :: rs, os := os }
  | .BoolOp op xs _ => { es := xs, bop := op }
  | .Slice lo up st _ => { b := st.isNone, lo := lo, up := up }
  | .UnaryOp op x _ => { es := [x], uop := op }
  | .IfExp a b c _ => { es := [a, b, c] }
  | .BinOp l o r _ => { es := [l, r], op := o }
  | .ListComp et gens sc _ => { es := [et], g := gens, sc := sc }
  | _ => {}
noncomputable def un {α : Type} (f : α → List α → Bool) : List α → Bool
  | a :: r => f a r
  | [] => false
noncomputable def one (f : Expr → Bool) : List Expr → Bool := un fun a r => r.isEmpty && f a
noncomputable def two (f : Expr → Expr → Bool) : List Expr → Bool := un fun a => one (f a)
noncomputable def three (f : Expr → Expr → Expr → Bool) : List Expr → Bool := un fun a => two (f a)
noncomputable def opt (f : Expr → Bool) : Option Expr → Bool
  | some a => f a
  | none => false
theorem an {a b : Bool} {P : Prop} (h : (a && b) = true) (k : a = true → b = true → P) : P := k (Bool.and_eq_true_iff.mp h).1 (Bool.and_eq_true_iff.mp h).2
theorem bnot {a : Bool} (h : (!a) = true) : a = false := by cases a <;> first | rfl | cases h
@[elab_as_elim] theorem un_el {α : Type} {f : α → List α → Bool} {xs : List α} {P : List α → Prop} (h : un f xs = true) (k : ∀ a r, f a r = true → P (a :: r)) : P xs := by
  cases xs with
  | nil => cases h
  | cons a r => exact k a r h
@[elab_as_elim] theorem one_el {f : Expr → Bool} {xs : List Expr} {P : List Expr → Prop} (h : one f xs = true) (k : ∀ a, f a = true → P [a]) : P xs :=
  un_el h fun a r h => an h fun h1 h2 => by cases r with
    | nil => exact k a h2
    | cons _ _ => cases h1
@[elab_as_elim] theorem two_el {f : Expr → Expr → Bool} {xs : List Expr} {P : List Expr → Prop} (h : two f xs = true) (k : ∀ a b, f a b = true → P [a, b]) : P xs :=
  un_el h fun a r h => one_el h fun b h => k a b h
@[elab_as_elim] theorem opt_el {f : Expr → Bool} {o : Option Expr} {P : Option Expr → Prop} (h : opt f o = true) (k : ∀ a, f a = true → P (some a)) : P o := by
  cases o with
  | none => cases h
  | some a => exact k a h
noncomputable def nmIs (ok : String → Bool) (x : String) (e : Expr) : Bool := e.ctorIdx == 23 && ((nd e).s == Str.ofString x && (ok x && !dbg x))
@[elab_as_elim] theorem nmIs_el {ok : String → Bool} {x : String} {e : Expr} {P : Expr → Prop} (h : nmIs ok x e = true) (k : ∀ p, ok x = true → dbg x = false → P (.Name (Str.ofString x) p)) : P e :=
  an h fun h1 h => (Expr.Name.elim (motive_1 := fun e => (((nd e).s == Str.ofString x && (ok x && !dbg x)) = true) → P e) e (eq_of_beq h1) fun s p h => an h fun h2 h => an h fun h3 h4 => eq_of_beq (show (s == _) = true from h2) ▸ k p h3 (bnot h4)) h
noncomputable def isC (c : Const) (e : Expr) : Bool := e.ctorIdx == 19 && (nd e).c == c
@[elab_as_elim] theorem isC_el {c : Const} {e : Expr} {P : Expr → Prop} (h : isC c e = true) (k : ∀ n p, P (.Constant c n p)) : P e :=
  an h fun h1 h => (Expr.Constant.elim (motive_1 := fun e => ((nd e).c == c) = true → P e) e (eq_of_beq h1) fun c' n p h => eq_of_beq (show (c' == c) = true from h) ▸ k n p) h
noncomputable def isSl (e : Expr) : Bool := e.ctorIdx == 26
noncomputable def notCall0 (e : Expr) : Bool := !(e.ctorIdx == 16 && ((nd e).b && one (fun g => g.ctorIdx == 23) (nd e).es))
noncomputable def isLNone : LE → Bool
  | .none => true
  | _ => false
noncomputable def atIs (x : Str) (k : Pos → Expr → Bool) (e : Expr) : Bool := e.ctorIdx == 20 && ((nd e).s == x && one (fun v => notCall0 v && k (nd e).p v) (nd e).es)
@[elab_as_elim] theorem atIs_el {x : Str} {k : Pos → Expr → Bool} {e : Expr} {P : Expr → Prop} (h : atIs x k e = true) (q : ∀ v p, notCall0 v = true → k p v = true → P (.Attribute v x p)) : P e :=
  an h fun h1 h => (Expr.Attribute.elim (motive_1 := fun e => ((nd e).s == x && one (fun v => notCall0 v && k (nd e).p v) (nd e).es) = true → P e) e (eq_of_beq h1) fun v s p h => an h fun h2 h => an (a := notCall0 v) (b := k p v) h fun h3 h4 => eq_of_beq (show (s == x) = true from h2) ▸ q v p h3 h4) h
noncomputable def cl (f : Expr → List Expr → Pos → Bool) (e : Expr) : Bool := e.ctorIdx == 16 && ((nd e).b && un (fun g xs => f g xs (nd e).p) (nd e).es)
@[elab_as_elim] theorem cl_el {f : Expr → List Expr → Pos → Bool} {e : Expr} {P : Expr → Prop} (h : cl f e = true) (q : ∀ g xs p, f g xs p = true → P (.Call g xs [] p)) : P e :=
  an h fun h1 h => (Expr.Call.elim (motive_1 := fun e => ((nd e).b && un (fun g xs => f g xs (nd e).p) (nd e).es) = true → P e) e (eq_of_beq h1) fun g xs ks p h => an h fun h2 h => List.isEmpty_iff.mp (show ks.isEmpty = true from h2) ▸ q g xs p h) h
noncomputable def uC1 (N : Names) (f : String) (k : Expr → Bool) : Expr → Bool := cl fun g xs _ => nmIs (isG N) f g && one k xs
@[elab_as_elim] theorem uC1_el {N : Names} {f : String} {k : Expr → Bool} {e : Expr} {P : Expr → Prop} (h : uC1 N f k e = true) (q : ∀ a p pos, isG N f = true → dbg f = false → k a = true → P (.Call (.Name (Str.ofString f) p) [a] [] pos)) : P e :=
  cl_el h fun g xs pos h => an h fun h1 h2 => one_el h2 fun a h2 => nmIs_el h1 fun p hg hd => q a p pos hg hd h2
noncomputable def meIs (m : String) (k : Expr → List Expr → Bool) : Expr → Bool := cl fun g xs p => atIs (Str.ofString m) (fun ap o => ap.endLine == p.line && k o xs) g
@[elab_as_elim] theorem meIs_el {m : String} {k : Expr → List Expr → Bool} {e : Expr} {P : Expr → Prop} (h : meIs m k e = true) (q : ∀ o ap xs p, notCall0 o = true → (ap.endLine == p.line) = true → k o xs = true → P (.Call (.Attribute o (Str.ofString m) ap) xs [] p)) : P e :=
  cl_el h fun g xs p h => atIs_el h fun o ap h1 h => an h fun h2 h3 => q o ap xs p h1 h2 h3
noncomputable def uM0 (m : String) (k : Expr → Bool) : Expr → Bool := meIs m fun o xs => xs.isEmpty && k o
@[elab_as_elim] theorem uM0_el {m : String} {k : Expr → Bool} {e : Expr} {P : Expr → Prop} (h : uM0 m k e = true) (q : ∀ o ap p, notCall0 o = true → (ap.endLine == p.line) = true → k o = true → P (.Call (.Attribute o (Str.ofString m) ap) [] [] p)) : P e :=
  meIs_el h fun o ap xs p h1 h2 h => an h fun h3 h4 => List.isEmpty_iff.mp h3 ▸ q o ap p h1 h2 h4
noncomputable def cm (o : CmpOp) (k : Expr → Expr → Bool) (e : Expr) : Bool := e.ctorIdx == 15 && ((nd e).os == [o] && two k (nd e).es)
@[elab_as_elim] theorem cm_el {o : CmpOp} {k : Expr → Expr → Bool} {e : Expr} {P : Expr → Prop} (h : cm o k e = true) (q : ∀ l r p, k l r = true → P (.Compare l [o] [r] p)) : P e :=
  an h fun h1 h => (Expr.Compare.elim (motive_1 := fun e => ((nd e).os == [o] && two k (nd e).es) = true → P e) e (eq_of_beq h1) fun l os rs p h => an h fun h2 h => eq_of_beq (show (os == [o]) = true from h2) ▸ one_el (f := k l) (xs := rs) (show one (k l) rs = true from h) fun r h => q l r p h) h
noncomputable def dct0 (e : Expr) : Bool := e.ctorIdx == 6 && (nd e).b
@[elab_as_elim] theorem dct0_el {e : Expr} {P : Expr → Prop} (h : dct0 e = true) (q : ∀ p, P (.Dict [] [] p)) : P e :=
  an h fun h1 h => (Expr.Dict.elim (motive_1 := fun e => (nd e).b = true → P e) e (eq_of_beq h1) fun ks vs p h => an h fun h2 h3 => List.isEmpty_iff.mp h2 ▸ List.isEmpty_iff.mp h3 ▸ q p) h
noncomputable def uBlt (N : Names) (k : Expr → Bool) : Blt → Expr → Bool
  | .len => uC1 N "len" k
  | .list => uC1 N "list" k
  | .sorted => uC1 N "sorted" k
  | .lenSet => uC1 N "len" (uC1 N "set" k)
  | .listValues => uC1 N "list" (uM0 "values" k)
  | .listItems => uC1 N "list" (uM0 "items" k)
  | .isEmpty => cm .Eq fun l r => dct0 r && k l
noncomputable def uSrc (N : Names) (k : Expr → Bool) : SrcK → Expr → Bool
  | .plain => k
  | .rev => uC1 N "reversed" k
  | .values => uM0 "values" k
  | .enum => uC1 N "enumerate" k
  | .range => uC1 N "range" k
noncomputable def gen1 (x : String) (f : Expr → List Expr → Bool) : List Comprehension → Bool
  | ⟨t, iter, ifs, a⟩ :: r => r.isEmpty && (a == 0 && (t.ctorIdx == 23 && ((nd t).s == Str.ofString x && f iter ifs)))
  | [] => false
@[elab_as_elim] theorem gen1_el {x : String} {f : Expr → List Expr → Bool} {g : List Comprehension} {P : List Comprehension → Prop} (h : gen1 x f g = true) (q : ∀ p iter ifs, f iter ifs = true → P [⟨.Name (Str.ofString x) p, iter, ifs, 0⟩]) : P g := by
  cases g with
  | nil => cases h
  | cons c r =>
    obtain ⟨t, iter, ifs, a⟩ := c
    refine an h fun h1 ha => an ha fun h2 hb => an hb fun h3 hc => ?_
    obtain rfl := List.isEmpty_iff.mp h1
    obtain rfl := eq_of_beq h2
    exact (Expr.Name.elim (motive_1 := fun t => ((nd t).s == Str.ofString x && f iter ifs) = true → P [⟨t, iter, ifs, 0⟩]) t (eq_of_beq h3) fun s p h => an h fun h4 h5 => eq_of_beq (show (s == _) = true from h4) ▸ q p iter ifs h5) hc
noncomputable def fnNames : List String := ["Counted", "Cell", "new_cell", "cell_of", "is_ref", "inner", "value_of", "gain", "held_by", "replaced", "taken_out", "written", "ref_in", "in_copy", "copied", "has_elements", "container",
  "set_int", "new_array", "new_object", "assign", "put", "take", "make_ref", "put_ref", "unset", "unset_at", "change", "suspect", "cleared", "free_cell", "wants_destructor", "begin_destructor", "losing", "lose", "settle", "do_deed",
  "all_held", "counts_right", "children", "mark_grey", "scan_black", "scan", "gather", "find_rings", "run_destructors", "still_held", "without_held", "free_all", "turn", "collect", "reachable", "plain_collect",
  "_law_told", "_law_deed", "_law_reached", "_law_picture", "_law_collected"]
noncomputable def compOk (N : Names) (sc : Scope) (x : String) : Bool :=
  sc.kind == .function && sc.names.lookup (Str.ofString x) == some .local &&
  sc.names.all (fun p => p.2 != .cell && (p.2 != .local || (sc.names.lookup p.1 == some .local && (p.1 == Str.ofString x || p.1 == Str.ofString ".0"))) && (p.2 != .free || N.lookup p.1 == some .cell)) &&
  x != ".0"
mutual
noncomputable def mE (N : Names) : LE → Expr → Bool
  | .var x => nmIs (isV N) x
  | .none => isC .none
  | .bool b => isC (.bool b)
  | .int i => isC (.int i)
  | .str s => isC (.str (Str.ofString s))
  | .attr l x => fun e => allAttrs.contains x && atIs (Str.ofString x) (fun _ v => mE N l v) e
  | .idx l i => fun e => e.ctorIdx == 21 && two (fun v j => !isSl j && (mE N l v && mE N i j)) (nd e).es
  | .sliceTo l n => fun e => e.ctorIdx == 21 && two (fun v j => isSl j && ((nd j).b && ((nd j).lo.isNone && (mE N l v && opt (mE N n) (nd j).up)))) (nd e).es
  | .sliceFrom l n => fun e => e.ctorIdx == 21 && two (fun v j => isSl j && ((nd j).b && ((nd j).up.isNone && (mE N l v && opt (mE N n) (nd j).lo)))) (nd e).es
  | .tup es => fun e => e.ctorIdx == 25 && (decide (es.length ≤ 1000) && mEs N es (nd e).es)
  | .list es => fun e => e.ctorIdx == 24 && (decide (es.length ≤ 1000) && mEs N es (nd e).es)
  | .dict0 => dct0
  | .call f es => cl fun g xs _ => nmIs (isG N) f g && (fnNames.contains f && mEs N es xs)
  | .meth l m es => meIs m.s fun o xs => decide (xs.length < 30) && (mE N l o && mEs N es xs)
  | .blt b l => uBlt N (mE N l) b
  | .cmp op a b => cm (opOf op) fun l r => ((op != .isNone && op != .isNotNone) || isLNone b) && (mE N a l && mE N b r)
  | .band es => fun e => e.ctorIdx == 0 && ((nd e).bop == .And && mEs N es (nd e).es)
  | .bor es => fun e => e.ctorIdx == 0 && ((nd e).bop == .Or && mEs N es (nd e).es)
  | .not l => fun e => e.ctorIdx == 3 && ((nd e).uop == .Not && one (mE N l) (nd e).es)
  | .neg l => fun e => e.ctorIdx == 3 && ((nd e).uop == .USub && one (mE N l) (nd e).es)
  | .ite c a b => fun e => e.ctorIdx == 5 && three (fun x y z => mE N c x && (mE N a y && mE N b z)) (nd e).es
  | .bin op a b => fun e => e.ctorIdx == 2 && ((nd e).op == binOf op && two (fun x y => mE N a x && mE N b y) (nd e).es)
  | .comp elt x k src conds => fun e => e.ctorIdx == 8 && (compOk N (nd e).sc x && (k != .enum && (k != .range &&
      gen1 x (fun iter ifs => uSrc N (mE N src) k iter && (one (mE (relabN N (nd e).sc.names) elt) (nd e).es && mEs (relabN N (nd e).sc.names) conds ifs)) (nd e).g)))
noncomputable def mEs (N : Names) : List LE → List Expr → Bool
  | [] => fun xs => xs.isEmpty
  | l :: ls => un fun x r => mE N l x && mEs N ls r
end
structure StatG (K : Frag) (mg : Str → Option Value) : Prop where
  nob : ∀ x ∈ ["len", "list", "sorted", "set", "reversed", "enumerate", "range"], mg (Str.ofString x) = none
  fn : ∀ f ∈ fnNames, ∃ v, mg (Str.ofString f) = some v ∧ keepIn K v = true
noncomputable def okI (i : Nat) : Bool := [0, 2, 3, 5, 6, 8, 15, 16, 19, 20, 21, 23, 24, 25].contains i
theorem mE_ok {N : Names} {l : LE} {e : Expr} (h : mE N l e = true) : okI e.ctorIdx = true := by
  have k : ∀ {n : Nat} {b : Bool}, okI n = true → (e.ctorIdx == n && b) = true → okI e.ctorIdx = true := fun hn h => an h fun h _ => by rw [eq_of_beq h]; exact hn
  cases l with
  | attr l x => exact an h fun _ h => k rfl h
  | blt b l => cases b <;> exact k rfl h
  | _ => exact k rfl h
theorem star_plain {x : Expr} {r : List Expr} {env : PySem.Env} (h : okI x.ctorIdx = true) : starEach (x :: r) env = (false, eval x env) :: starEach r env := by
  cases x <;> first | rfl | exact Bool.noConfusion h
theorem star_cons {N : Names} {l : LE} {x : Expr} {r : List Expr} {env : PySem.Env} (h : mE N l x = true) : starEach (x :: r) env = (false, eval x env) :: starEach r env := star_plain (mE_ok h)
theorem stars_plain {N : Names} {env : PySem.Env} {ls : List LE} {xs : List Expr} {pos : Pos} (h : mEs N ls xs = true) : (backTo pos (starEach xs env)).any (·.1) = false ∧ (backTo pos (starEach xs env)).all (fun x => !x.1) = true := by
  induction ls generalizing xs with
  | nil => obtain rfl := List.isEmpty_iff.mp h; exact ⟨rfl, rfl⟩
  | cons l ls ih => exact un_el h fun x r h => an h fun h1 h2 => by rw [star_cons h1]; exact ih h2
theorem mEs_length {N : Names} {ls : List LE} {xs : List Expr} (h : mEs N ls xs = true) : xs.length = ls.length := by
  induction ls generalizing xs with
  | nil => obtain rfl := List.isEmpty_iff.mp h; rfl
  | cons l ls ih => exact un_el h fun x r h => an h fun _ h2 => congrArg (· + 1) (ih h2)
theorem folded_plain {e : Expr} {env : PySem.Env} (h : okI e.ctorIdx = true) (x : Value) : foldedSetIterable e env x = pure x := by
  cases e <;> first | rfl | exact Bool.noConfusion h
theorem behind_plain {e : Expr} {op : CmpOp} (h : okI e.ctorIdx = true) : behindInMarks op e = false := by
  cases e <;> first | rfl | exact Bool.noConfusion h
theorem base_plain {o : Expr} {attr : Str} {env : PySem.Env} {m : Sem Value} (h : notCall0 o = true) : attributeBase o attr env m = m := by
  cases o with
  | Call f xs ks p => cases f with
    | Name s p' => cases ks with
      | cons _ _ => cases xs <;> rfl
      | nil => cases xs with
        | cons _ _ => rfl
        | nil => exact Bool.noConfusion h
    | _ => rfl
  | _ => rfl
section
variable {prog : Program} {w : World} {base : Heap} {caddr : Cls → Addr} {K : Frag} {mg mb : Str → Option Value}
variable {A : Around} {E : Value → Shared → Prop} {μ μ' : Mu} {s : Shared} {h h' : Heap} {H : Hp} {n : Nat}
noncomputable def CallOk (prog : Program) (w : World) (base : Heap) (caddr : Cls → Addr) (mg : Str → Option Value) (n : Nat) (C : CallP) : Prop :=
  ∀ f args Q H v, C f args Q H → mg (Str.ofString f) = some v → ∀ A μ s vs, CtxA n A → Core prog w base caddr μ H s.heap → VRels μ s.heap args vs → Wp prog w base caddr A (call v vs) VRel Q μ s
structure Sit (prog : Program) (w : World) (base : Heap) (caddr : Cls → Addr) (mg : Str → Option Value) (env : PySem.Env) (ρ : Env) (A : Around) (n : Nat) (Cp : CallP) (μ : Mu) (s : Shared) (H : Hp) : Prop where
  call : CallOk prog w base caddr mg n Cp
  ctx : CtxA n A
  core : Core prog w base caddr μ H s.heap
  env : EnvOk base env μ s.heap ρ
variable {env : PySem.Env} {ρ : Env} {Cp : CallP} {α β : Type} {t : Sem α} {R : Mu → Heap → β → α → Prop} {Q : β → Hp → Prop} {P : α → Shared → Prop} {H' : Hp} {s' : Shared}
theorem Sit.next (X : Sit prog w base caddr mg env ρ A n Cp μ s H) (C : Core prog w base caddr μ' H' s'.heap) (x : Ext μ s.heap μ' s'.heap) : Sit prog w base caddr mg env ρ A n Cp μ' s' H' := ⟨X.call, X.ctx, C, X.env.ext x⟩
theorem Sit.nest (X : Sit prog w base caddr mg env ρ A n Cp μ s H) (h : Wp prog w base caddr A t R Q μ s)
    (hk : ∀ a s' μ' b H', Sit prog w base caddr mg env ρ A n Cp μ' s' H' → Ext μ s.heap μ' s'.heap → R μ' s'.heap b a → Q b H' → Over prog w base caddr μ s μ' s' → P a s') : wpAny (model prog w) A t P (fun _ _ => False) s :=
  h.nest fun a s' μ' b H' c e r q l => hk a s' μ' b H' (X.next c e) e r q l
theorem Sit.nestS {P : α → Shared → Prop} (X : Sit prog w base caddr mg env ρ A n Cp μ s H) (h : Wp prog w base caddr A t R Q μ s)
    (hk : ∀ a h' tk μ' b H', Sit prog w base caddr mg env ρ A n Cp μ' { s with heap := h', toks := tk } H' → Ext μ s.heap μ' h' → R μ' h' b a → Q b H' → P a { s with heap := h', toks := tk }) : wpAny (model prog w) A t P (fun _ _ => False) s :=
  h.nestS fun a h' tk μ' b H' c e r q => hk a h' tk μ' b H' (X.next (s' := { s with heap := h', toks := tk }) c e) e r q
noncomputable abbrev tR : Mu → Heap → Bool → Bool → Prop := fun _ _ x y => x = y
noncomputable abbrev esR (es : List LE) : Mu → Heap → List V → List Value → Prop := fun μ h Vs vs => VRels μ h Vs vs ∧ Vs.length = es.length
noncomputable def trQ (Q : Bool → Hp → Prop) (v : V) (H : Hp) : Prop := ∃ b, truthyV H v = some b ∧ Q b H
structure PE (prog : Program) (w : World) (base : Heap) (caddr : Cls → Addr) (mg : Str → Option Value) (l : LE) : Prop where
  ev : ∀ {e : Expr} {env : PySem.Env} {ρ : Env} {A : Around} {n : Nat} {C : CallP} {μ : Mu} {s : Shared} {H : Hp} {Q : V → Hp → Prop}, Sit prog w base caddr mg env ρ A n C μ s H →
    mE env.scope.names l e = true → wpE C l ρ Q H → Wp prog w base caddr A (eval e env) VRel Q μ s
  tr : ∀ {e : Expr} {env : PySem.Env} {ρ : Env} {A : Around} {n : Nat} {C : CallP} {μ : Mu} {s : Shared} {H : Hp} {Q : Bool → Hp → Prop}, Sit prog w base caddr mg env ρ A n C μ s H →
    mE env.scope.names l e = true → wpE C l ρ (trQ Q) H → Wp prog w base caddr A (isTrue e env (eval e env)) tR Q μ s
noncomputable abbrev condsIn (xs : List Expr) (env : PySem.Env) : Sem Bool :=
  forIn xs true fun c r => if r = true then do let ok ← isTrue c env (eval c env); pure (ForInStep.yield ok) else pure (ForInStep.yield r)
noncomputable abbrev PF (prog : Program) (w : World) (base : Heap) (caddr : Cls → Addr) (mg : Str → Option Value) (ls : List LE) {α β : Type} (W : CallP → List LE → Env → (β → Hp → Prop) → Hp → Prop) (t : Pos → List Expr → PySem.Env → Sem α) (R : Mu → Heap → β → α → Prop) : Prop :=
  ∀ {pos : Pos} {xs : List Expr} {env : PySem.Env} {ρ : Env} {A : Around} {n : Nat} {C : CallP} {μ : Mu} {s : Shared} {H : Hp} {Q : β → Hp → Prop}, Sit prog w base caddr mg env ρ A n C μ s H →
    mEs env.scope.names ls xs = true → W C ls ρ Q H → Wp prog w base caddr A (t pos xs env) R Q μ s
structure PEs (prog : Program) (w : World) (base : Heap) (caddr : Cls → Addr) (mg : Str → Option Value) (ls : List LE) : Prop where
  ev : PF prog w base caddr mg ls wpEs (fun pos xs env => spliced (backTo pos (starEach xs env))) (esR ls)
  and : PF prog w base caddr mg ls wpAnd (fun pos xs env => boolOp pos .And (evalEach xs env)) VRel
  or : PF prog w base caddr mg ls wpOr (fun pos xs env => boolOp pos .Or (evalEach xs env)) VRel
  andT : PF prog w base caddr mg ls (fun C ls ρ Q => wpAnd C ls ρ (trQ Q)) (fun _ xs env => allTrue .And xs env) tR
  orT : PF prog w base caddr mg ls (fun C ls ρ Q => wpOr C ls ρ (trQ Q)) (fun _ xs env => allTrue .Or xs env) tR
  cs : PF prog w base caddr mg ls wpCs (fun _ xs env => condsIn xs env) tR
end
end Mine
end
noncomputable section
open PySem PySem.W PyProof.Rows
set_option maxRecDepth 100000
namespace Mine
theorem isV_of {env : PySem.Env} {x : String} (h : isV env.scope.names x = true) : isVar env x := an h fun h1 h2 => ⟨bne_iff_ne.mp h1, (Bool.or_eq_true_iff.mp h2).imp eq_of_beq eq_of_beq⟩
theorem isG_of {env : PySem.Env} {x : String} (h : isG env.scope.names x = true) : env.kindOf (Str.ofString x) = some .globalImplicit := eq_of_beq h
section
variable {e : Expr} {P : Expr → Prop}
@[elab_as_elim] theorem sub_el {f : Expr → Expr → Bool} (h : (e.ctorIdx == 21 && two f (nd e).es) = true) (q : ∀ v j p, f v j = true → P (.Subscript v j p)) : P e :=
  an h fun h1 h => (Expr.Subscript.elim (motive_1 := fun e => two f (nd e).es = true → P e) e (eq_of_beq h1) fun v j p h => q v j p h) h
@[elab_as_elim] theorem slTo_el {f g : Expr → Bool} (h : (e.ctorIdx == 21 && two (fun v j => isSl j && ((nd j).b && ((nd j).lo.isNone && (f v && opt g (nd j).up)))) (nd e).es) = true) (q : ∀ v u p p', f v = true → g u = true → P (.Subscript v (.Slice none (some u) none p') p)) : P e :=
  sub_el h fun v j p h => an h fun h1 h => (Expr.Slice.elim (motive_1 := fun j => ((nd j).b && ((nd j).lo.isNone && (f v && opt g (nd j).up))) = true → P (.Subscript v j p)) j (eq_of_beq h1) fun lo up st p' h =>
    an h fun h1 h => an h fun h2 h => an h fun h3 h4 => by
      obtain rfl : st = none := Option.isNone_iff_eq_none.mp h1
      obtain rfl : lo = none := Option.isNone_iff_eq_none.mp h2
      exact opt_el (o := up) h4 fun u hu => q v u p p' h3 hu) h
@[elab_as_elim] theorem slFrom_el {f g : Expr → Bool} (h : (e.ctorIdx == 21 && two (fun v j => isSl j && ((nd j).b && ((nd j).up.isNone && (f v && opt g (nd j).lo)))) (nd e).es) = true) (q : ∀ v u p p', f v = true → g u = true → P (.Subscript v (.Slice (some u) none none p') p)) : P e :=
  sub_el h fun v j p h => an h fun h1 h => (Expr.Slice.elim (motive_1 := fun j => ((nd j).b && ((nd j).up.isNone && (f v && opt g (nd j).lo))) = true → P (.Subscript v j p)) j (eq_of_beq h1) fun lo up st p' h =>
    an h fun h1 h => an h fun h2 h => an h fun h3 h4 => by
      obtain rfl : st = none := Option.isNone_iff_eq_none.mp h1
      obtain rfl : up = none := Option.isNone_iff_eq_none.mp h2
      exact opt_el (o := lo) h4 fun u hu => q v u p p' h3 hu) h
@[elab_as_elim] theorem tup_el {b : Bool} {f : List Expr → Bool} (h : (e.ctorIdx == 25 && (b && f (nd e).es)) = true) (q : ∀ xs n p, b = true → f xs = true → P (.Tuple xs n p)) : P e :=
  an h fun h1 h => an h fun hb h => (Expr.Tuple.elim (motive_1 := fun e => f (nd e).es = true → P e) e (eq_of_beq h1) fun xs n p h => q xs n p hb h) h
@[elab_as_elim] theorem lst_el {b : Bool} {f : List Expr → Bool} (h : (e.ctorIdx == 24 && (b && f (nd e).es)) = true) (q : ∀ xs p, b = true → f xs = true → P (.List xs p)) : P e :=
  an h fun h1 h => an h fun hb h => (Expr.List.elim (motive_1 := fun e => f (nd e).es = true → P e) e (eq_of_beq h1) fun xs p h => q xs p hb h) h
@[elab_as_elim] theorem bop_el {o : BoolOp} {f : List Expr → Bool} (h : (e.ctorIdx == 0 && ((nd e).bop == o && f (nd e).es)) = true) (q : ∀ xs p, f xs = true → P (.BoolOp o xs p)) : P e :=
  an h fun h1 h => (Expr.BoolOp.elim (motive_1 := fun e => ((nd e).bop == o && f (nd e).es) = true → P e) e (eq_of_beq h1) fun o' xs p h => an h fun h2 h => eq_of_beq (show (o' == o) = true from h2) ▸ q xs p h) h
@[elab_as_elim] theorem uop_el {o : UnaryOp} {f : Expr → Bool} (h : (e.ctorIdx == 3 && ((nd e).uop == o && one f (nd e).es)) = true) (q : ∀ x p, f x = true → P (.UnaryOp o x p)) : P e :=
  an h fun h1 h => (Expr.UnaryOp.elim (motive_1 := fun e => ((nd e).uop == o && one f (nd e).es) = true → P e) e (eq_of_beq h1) fun o' x p h => an h fun h2 h => eq_of_beq (show (o' == o) = true from h2) ▸ q x p h) h
@[elab_as_elim] theorem ife_el {f : Expr → Expr → Expr → Bool} (h : (e.ctorIdx == 5 && three f (nd e).es) = true) (q : ∀ a b c p, f a b c = true → P (.IfExp a b c p)) : P e :=
  an h fun h1 h => (Expr.IfExp.elim (motive_1 := fun e => three f (nd e).es = true → P e) e (eq_of_beq h1) fun a b c p h => q a b c p h) h
@[elab_as_elim] theorem bin_el {o : Operator} {f : Expr → Expr → Bool} (h : (e.ctorIdx == 2 && ((nd e).op == o && two f (nd e).es)) = true) (q : ∀ x y p, f x y = true → P (.BinOp x o y p)) : P e :=
  an h fun h1 h => (Expr.BinOp.elim (motive_1 := fun e => ((nd e).op == o && two f (nd e).es) = true → P e) e (eq_of_beq h1) fun x o' y p h => an h fun h2 h => eq_of_beq (show (o' == o) = true from h2) ▸ q x y p h) h
end
noncomputable def plainI (i : Nat) : Bool := !([0, 3, 5, 15].contains i)
noncomputable def plainT (e : Expr) : Bool := plainI e.ctorIdx || (nd e).uop == .USub
theorem plain_of {e : Expr} {n : Nat} {b : Bool} (h : (e.ctorIdx == n && b) = true) (hn : plainI n = true) : plainT e = true := an h fun h _ => by unfold plainT; rw [eq_of_beq h, hn]; rfl
theorem isTrue_plainT {e : Expr} {env : PySem.Env} {m : Sem Value} (h : plainT e = true) : isTrue e env m = (do let v ← m; standAt e.pos; holding [v] (truthy v)) := by
  cases e with
  | UnaryOp op x p => cases op <;> first | rfl | exact Bool.noConfusion h
  | _ => first | rfl | exact Bool.noConfusion h
section
variable {prog : Program} {w : World} {base : Heap} {caddr : Cls → Addr} {K : Frag} {mg mb : Str → Option Value}
variable {A : Around} {μ : Mu} {s s₂ : Shared} {H : Hp} {env : PySem.Env} {n : Nat} {Cp : CallP} {ρ : Env} {e : Expr}
theorem EndW.truth {c : Value} {Q : Bool → Hp → Prop} (z : EndW prog w base caddr VRel (trQ Q) μ s c s₂) : wpAny (model prog w) A (truthy c) (EndW prog w base caddr tR Q μ s) (fun _ _ => False) s₂ :=
  z.el fun h' tk μ' b H' C E r ⟨t, ht, q⟩ => (wp_truthy C r ht q).lift (Over.of E)
theorem Wp.truth {Q : Bool → Hp → Prop} (hp : plainT e = true) (h : Wp prog w base caddr A (eval e env) VRel (trQ Q) μ s) : Wp prog w base caddr A (isTrue e env (eval e env)) tR Q μ s := by
  rw [isTrue_plainT hp]
  exact wpAny_bind (wpAny_mono h (fun a s' z => wpAny_bind (wpAny_standAt (wpAny_holding z.truth))) fun _ _ x => x)
theorem PE.of_ev {l : LE} (hp : ∀ N e, mE N l e = true → plainT e = true)
    (ev : ∀ {e : Expr} {env : PySem.Env} {ρ : Env} {A : Around} {n : Nat} {C : CallP} {μ : Mu} {s : Shared} {H : Hp} {Q : V → Hp → Prop}, Sit prog w base caddr mg env ρ A n C μ s H →
    mE env.scope.names l e = true → wpE C l ρ Q H → Wp prog w base caddr A (eval e env) VRel Q μ s) : PE prog w base caddr mg l :=
  ⟨ev, fun X m q => Wp.truth (hp _ _ m) (ev X m q)⟩
theorem PE.var (x : String) : PE prog w base caddr mg (.var x) := .of_ev (fun N e m => plain_of m rfl) fun X m q => by
  obtain ⟨Z, hx, q⟩ := q
  exact nmIs_el m fun p hv hd => wp_var X.core X.env hx (isV_of hv) hd q
theorem PE.none : PE prog w base caddr mg .none := .of_ev (fun N e m => plain_of m rfl) fun X m q => isC_el m fun n p => wpAny_Constant_none (Wp.here X.core VRel.n q)
theorem PE.bool (b : Bool) : PE prog w base caddr mg (.bool b) := .of_ev (fun N e m => plain_of m rfl) fun X m q => isC_el m fun n p => wpAny_Constant_bool (Wp.here X.core VRel.b q)
theorem PE.int (i : Int) : PE prog w base caddr mg (.int i) := .of_ev (fun N e m => plain_of m rfl) fun X m q => isC_el m fun n p => wpAny_Constant_int (Wp.hereT X.core VRel.i q)
theorem PE.str (x : String) : PE prog w base caddr mg (.str x) := .of_ev (fun N e m => plain_of m rfl) fun X m q => isC_el m fun n p => wpAny_Constant_str (Wp.hereT X.core VRel.s q)
theorem eval_attr (v : Expr) (x : Str) (pos : Pos) (env : PySem.Env) : eval (.Attribute v x pos) env = (do
    let o ← attributeBase v x env (eval v env)
    standAt pos.atName
    let r ← holding [o] (getAttr o x true)
    letTemporaryGo v o r
    pure r) := rfl
theorem PE.attr (S : Stat K base mg mb caddr) {l : LE} (x : String) (ih : PE prog w base caddr mg l) : PE prog w base caddr mg (.attr l x) :=
  .of_ev (fun N e m => an m fun _ m => plain_of m rfl) fun X m q => an m fun ha m => atIs_el m fun v p hb m =>
    Attribute_any_ (X.nest (ih.ev X m q) fun a s' μ' b H' X' E' r q l => by
      obtain ⟨u, hu, q⟩ := q
      exact (wp_getAttr S X'.core r hu (List.contains_iff_mem.mp ha) q).lift l) (by rw [eval_attr, base_plain hb])
theorem tail_plain {P : Value → Shared → Prop} {value slice : Expr} {o i : Value} {T id : String} (hT : s.TypeIs o T) (hl : typeLookup (.type T) "__getitem__" = pure (some (.builtin id)))
    (hs : isSl slice = false) (h : wpAny (model prog w) A (getItem o i) P (fun _ _ => False) s) : wpAny (model prog w) A (subscriptTail value slice o i) P (fun _ _ => False) s :=
  tail_any hT hl h (ops := [o, i]) (by cases slice <;> first | rfl | exact Bool.noConfusion hs)
theorem typeIs_list {i : Id} {a : Nat} {xs : List V} (C : Core prog w base caddr μ H s.heap) (ma : μ i false = some a) (hi : H i = some (.list xs)) : s.TypeIs (.ref a) "list" ∧ (∀ b, Value.ref a = .ref b → ∃ ob, s.heap.get? b = some ob ∧ ob.dict = none) :=
  C.listM hi ma fun items n l r z => ⟨⟨_, l, rfl⟩, fun b e => by cases e; exact ⟨_, l, rfl⟩⟩
theorem typeIs_dict {i : Id} {a ep : Nat} {es : List (Int × V)} (C : Core prog w base caddr μ H s.heap) (ma : μ i false = some a) (hi : H i = some (.dict ep es)) : s.TypeIs (.ref a) "dict" ∧ (∀ b, Value.ref a = .ref b → ∃ ob, s.heap.get? b = some ob ∧ ob.dict = none) :=
  C.dictM hi ma fun kvs D r z => by
    have ⟨o, es', ho, hex, _⟩ := D
    exact ⟨D.dictOf.typeIs, fun b e => by cases e; exact ⟨_, ho, hex.2.1⟩⟩
theorem typeIs_of {Z kk u : V} {v : Value} (C : Core prog w base caddr μ H s.heap) (rv : VRel μ s.heap Z v) (hu : idxOf H Z kk = some u) {P : Prop} (q : ∀ T id, s.TypeIs v T → typeLookup (.type T) "__getitem__" = pure (some (.builtin id)) → P) : P := by
  refine numI_el hu fun k hk hu => ?_
  cases Z with
  | tup vs => exact q _ _ (rv.tel fun a items T n r => T.typeIs) slot_tuple_getitem.lookup
  | obj i =>
    revert q
    refine rv.oel fun a m q => ?_
    have hu : objI (H i) k = some u := hu
    generalize hi : H i = o at hu
    cases o with
    | none => cases hu
    | some o => cases o with
      | list xs => exact q _ _ (typeIs_list C m hi).1 slot_list_getitem.lookup
      | dict ep es => exact q _ _ (typeIs_dict C m hi).1 slot_dict_getitem.lookup
      | inst _ _ => cases hu
  | _ => cases hu
theorem PE.idx {l i : LE} (ih : PE prog w base caddr mg l) (ih2 : PE prog w base caddr mg i) : PE prog w base caddr mg (.idx l i) :=
  .of_ev (fun N e m => plain_of m rfl) fun X m q => sub_el m fun v j p m => an m fun hs m => an m fun m1 m2 =>
    Subscript_ (X.nest (ih.ev X m1 q) fun a s' μ' b H' X' E' r q l => X'.nest (ih2.ev X' m2 q) fun a2 s2 μ2 b2 H2 X2 E2 r2 q2 l2 => by
      obtain ⟨u, hu, q⟩ := q2
      exact typeIs_of X2.core (r.ext E2) hu fun T id hT hl => tail_plain hT hl (bnot hs) ((wp_getItem X2.core (r.ext E2) r2 hu q).lift (l.trans l2)))
theorem slice_end {μ₀ : Mu} {s₀ : Shared} {Q : V → Hp → Prop} {v i : Value} {value : Expr} {p : Pos} {lo up : Option Expr} {o : Obj} {Z : Id} {xs : List V} (C : Core prog w base caddr μ H s.heap) (rv : VRel μ s.heap (.obj Z) v) (hi : H Z = some (.list xs)) (l : Over prog w base caddr μ₀ s₀ μ s)
    (h : ∀ a, μ Z false = some a → Core prog w base caddr μ H (s.heap.push o) → Wp prog w base caddr A (getItem (.ref a) i) VRel Q μ { s with heap := s.heap.push o }) :
    wpAny (model prog w) A (subscriptTail value (.Slice lo up none p) v i) (EndW prog w base caddr VRel Q μ₀ s₀) (fun _ _ => False) { s with heap := s.heap.push o } :=
  rv.oel fun a m => tail_any (s := { s with heap := s.heap.push o }) (typeIs_list (C.push o) m hi).1 slot_list_getitem.lookup (ops := [i, .ref a])
    (wpAny_mono (h a m (C.push o)) (fun c s₂ z => l _ _ _ _ (Over.of (tk := s.toks) (Ext.push μ s.heap o) _ _ _ _ z)) fun _ _ x => x) rfl
theorem PE.sliceTo {l i : LE} (ih : PE prog w base caddr mg l) (ih2 : PE prog w base caddr mg i) : PE prog w base caddr mg (.sliceTo l i) :=
  .of_ev (fun N e m => plain_of m rfl) fun {e env ρ A n C μ s H Q} X m q => by
    refine slTo_el (e := e) (f := mE env.scope.names l) (g := mE env.scope.names i) m fun v u p p' m1 m2 => Subscript_ (X.nest (ih.ev X m1 q) fun a s' μ' b H' X' E' r q1 l => wpAny_Slice ?_)
    rw [evalPart_none, evalPart_some]
    refine wpAny_pure (X'.nest (ih2.ev X' m2 q1) fun a2 s2 μ2 b2 H2 X2 E2 r2 q2 l2 => wpAny_pure ?_)
    obtain ⟨i, k, xs, rfl, rfl, hi, h0, h1, q⟩ := q2
    exact r2.iel fun t => slice_end X2.core (r.ext E2) hi (l.trans l2) fun a m C3 => wp_sliceTo (t := t) C3 m hi h0 ⟨_, Heap.get?_push_size _ rfl, rfl, rfl⟩ q
theorem PE.sliceFrom {l i : LE} (ih : PE prog w base caddr mg l) (ih2 : PE prog w base caddr mg i) : PE prog w base caddr mg (.sliceFrom l i) :=
  .of_ev (fun N e m => plain_of m rfl) fun {e env ρ A n C μ s H Q} X m q => by
    refine slFrom_el (e := e) (f := mE env.scope.names l) (g := mE env.scope.names i) m fun v u p p' m1 m2 => Subscript_ (X.nest (ih.ev X m1 q) fun a s' μ' b H' X' E' r q1 l => wpAny_Slice ?_)
    rw [evalPart_none, evalPart_some]
    refine X'.nest (ih2.ev X' m2 q1) fun a2 s2 μ2 b2 H2 X2 E2 r2 q2 l2 => wpAny_pure (wpAny_pure ?_)
    obtain ⟨i, k, xs, rfl, rfl, hi, h0, h1, q⟩ := q2
    exact r2.iel fun t => slice_end X2.core (r.ext E2) hi (l.trans l2) fun a m C3 => wp_sliceFrom (t := t) C3 m hi h0 ⟨_, Heap.get?_push_size _ rfl, rfl, rfl⟩ q
theorem LIM_1000 {m n : Nat} (h : decide (n ≤ 1000) = true) (e : m = n) : m ≤ LIM := e ▸ Nat.le_trans (of_decide_eq_true h) (by decide)
theorem PE.tup {es : List LE} (ih : PEs prog w base caddr mg es) : PE prog w base caddr mg (.tup es) :=
  .of_ev (fun N e m => plain_of m rfl) fun {e env ρ A n C μ s H Q} X m q => tup_el (e := e) (f := mEs env.scope.names es) m fun xs k p hl m => by
    rw [arm_eval_Tuple]
    exact wpAny_bind (wpAny_standAt ((ih.ev X m q).bind fun a s' μ' b H' C' E' r q => wp_newTuple C' r.1 (LIM_1000 hl r.2) q))
theorem PE.list {es : List LE} (ih : PEs prog w base caddr mg es) : PE prog w base caddr mg (.list es) :=
  .of_ev (fun N e m => plain_of m rfl) fun {e env ρ A n C μ s H Q} X m q => lst_el (e := e) (f := mEs env.scope.names es) m fun xs p hl m => by
    rw [arm_eval_List]
    exact wpAny_bind (wpAny_standAt ((ih.ev X m q).bind fun a s' μ' b H' C' E' r q => wp_newList C' r.1 (LIM_1000 hl r.2) q))
theorem PE.dict0 : PE prog w base caddr mg .dict0 := .of_ev (fun N e m => plain_of m rfl) fun X m q => dct0_el m fun p => wp_dict0 X.core q
theorem lnone {b : LE} (h : isLNone b = true) : b = .none := by cases b <;> first | rfl | exact Bool.noConfusion h
theorem none_q {b : LE} {Q : V → Hp → Prop} (q : wpE Cp b ρ Q H) : wpE Cp b ρ (fun y H => (isLNone b = true → y = .none) ∧ Q y H) H := by
  by_cases h : isLNone b = true
  · obtain rfl := lnone h; exact ⟨fun _ => rfl, q⟩
  · exact (congrArg (fun P => wpE Cp b ρ P H) (funext fun y => funext fun H => propext ⟨fun z => ⟨fun e => absurd e h, z⟩, fun z => z.2⟩)).mp q
theorem cmp_run (S : Stat K base mg mb caddr) {op : Cmp} {a b : LE} (ih : PE prog w base caddr mg a) (ih2 : PE prog w base caddr mg b) {Q : V → Hp → Prop} {P : Expr → Prop} (X : Sit prog w base caddr mg env ρ A n Cp μ s H)
    (m : mE env.scope.names (.cmp op a b) e = true) (q : wpE Cp (.cmp op a b) ρ Q H)
    (k : ∀ l r p, behindInMarks (opOf op) r = false → wpAny (model prog w) A (eval l env) (fun x s₁ => wpAny (model prog w) A (eval r env) (fun y s₂ => wpAny (model prog w) A (compareOp (opOf op) x y) (EndW prog w base caddr VRel Q μ s) (fun _ _ => False) s₂) (fun _ _ => False) s₁) (fun _ _ => False) s → P (.Compare l [opOf op] [r] p)) : P e :=
  cm_el m fun l r p m => an m fun hb m => an m fun m1 m2 => k l r p (behind_plain (mE_ok m2)) <|
    X.nest (ih.ev X m1 q) fun x s' μ' X' H' Y E' r q l => by
      refine Y.nest (ih2.ev Y m2 (none_q q)) fun y s2 μ2 Y' H2 Z E2 r2 q2 l2 => (wp_cmp S Z.ctx Z.core (r.ext E2) r2 (fun ho => q2.1 ?_) q2.2).lift (l.trans l2)
      rcases ho with rfl | rfl <;> exact hb
theorem PE.cmp (S : Stat K base mg mb caddr) (op : Cmp) {a b : LE} (ih : PE prog w base caddr mg a) (ih2 : PE prog w base caddr mg b) : PE prog w base caddr mg (.cmp op a b) where
  ev := fun X m q => cmp_run S ih ih2 (P := fun e => Wp prog w base caddr _ (eval e _) VRel _ _ _) X m q fun l r p hm k => wpAny_Compare1 k hm
  tr := fun X m q => cmp_run S ih ih2 (P := fun e => Wp prog w base caddr _ (isTrue e _ (eval e _)) tR _ _ _) X m q fun l r p hm k =>
    wpAny_isTrue_Compare1 (wpAny_mono k (fun _ _ k => wpAny_mono k (fun _ _ k => wpAny_mono k (fun c s₂ z => z.truth) fun _ _ x => x) fun _ _ x => x) fun _ _ x => x) hm
theorem PE.band {es : List LE} (ih : PEs prog w base caddr mg es) : PE prog w base caddr mg (.band es) where
  ev := fun {e env ρ A n C μ s H Q} X m q => bop_el (e := e) (f := mEs env.scope.names es) m fun xs p m => by rw [arm_eval_BoolOp]; exact ih.and X m q
  tr := fun {e env ρ A n C μ s H Q} X m q => bop_el (e := e) (f := mEs env.scope.names es) m fun xs p m => wpAny_isTrue_BoolOp (ih.andT (pos := p) X m q)
theorem PE.bor {es : List LE} (ih : PEs prog w base caddr mg es) : PE prog w base caddr mg (.bor es) where
  ev := fun {e env ρ A n C μ s H Q} X m q => bop_el (e := e) (f := mEs env.scope.names es) m fun xs p m => by rw [arm_eval_BoolOp]; exact ih.or X m q
  tr := fun {e env ρ A n C μ s H Q} X m q => bop_el (e := e) (f := mEs env.scope.names es) m fun xs p m => wpAny_isTrue_BoolOp (ih.orT (pos := p) X m q)
theorem trQ_not (C : CallP) (l : LE) (ρ : Env) (Q : Bool → Hp → Prop) (H : Hp) : wpE C (.not l) ρ (trQ Q) H = wpE C l ρ (trQ fun b H => Q (!b) H) H :=
  congrArg (fun P => wpE C l ρ P H) (funext fun v => funext fun H => propext ⟨fun ⟨b, h, t, e, q⟩ => ⟨b, h, by cases e; exact q⟩, fun ⟨b, h, q⟩ => ⟨b, h, _, rfl, q⟩⟩)
theorem PE.not {l : LE} (ih : PE prog w base caddr mg l) : PE prog w base caddr mg (.not l) where
  ev := fun X m q => uop_el m fun x p m => wpAny_UnaryOp (X.nest (ih.ev X m q) fun a s' μ' b H' X' E' r q l => by obtain ⟨t, ht, q⟩ := q; exact (wp_not X'.core r ht q).lift l)
  tr := fun X m q => uop_el m fun x p m => wpAny_isTrue_Not (wpAny_mono (ih.tr X m ((trQ_not ..).mp q)) (fun b s' z => z.el fun h' tk μ' b' H' C' E r q => .mk h' tk μ' _ H' rfl C' E (congrArg _ r) q) fun _ _ x => x)
theorem PE.ite {c a b : LE} (ihc : PE prog w base caddr mg c) (iha : PE prog w base caddr mg a) (ihb : PE prog w base caddr mg b) : PE prog w base caddr mg (.ite c a b) where
  ev := fun X m q => ife_el m fun t x y p m => an m fun m1 m => an m fun m2 m3 => wpAny_IfExp (X.nest (ihc.tr X m1 q) fun t s' μ' b' H' X' E' r q l => by
    obtain rfl : b' = t := r
    cases b' with
    | false => exact (ihb.ev X' m3 q).lift l
    | true => exact (iha.ev X' m2 q).lift l)
  tr := fun {e env ρ A n C μ s H Q} X m q => ife_el m fun t x y p m => an m fun m1 m => an m fun m2 m3 => by
    show Wp prog w base caddr A (do if ← isTrue t env (eval t env) then isTrue x env (eval x env) else isTrue y env (eval y env)) tR Q μ s
    refine wpAny_bind (X.nest (ihc.tr X m1 q) fun t s' μ' b' H' X' E' r q l => ?_)
    obtain rfl : b' = t := r
    cases b' with
    | false => exact (ihb.tr X' m3 q).lift l
    | true => exact (iha.tr X' m2 q).lift l
theorem PE.bin (op : BOp) {a b : LE} (ih : PE prog w base caddr mg a) (ih2 : PE prog w base caddr mg b) : PE prog w base caddr mg (.bin op a b) :=
  .of_ev (fun N e m => plain_of m rfl) fun X m q => bin_el m fun x y p m => an m fun m1 m2 => wpAny_BinOp (X.nest (ih.ev X m1 q) fun x s' μ' X' H' Y E' r q l =>
    Y.nest (ih2.ev Y m2 q) fun y s2 μ2 Y' H2 Z E2 r2 q l2 => (wp_bin Z.core (r.ext E2) r2 q).lift (l.trans l2))
theorem PE.neg {l : LE} (ih : PE prog w base caddr mg l) : PE prog w base caddr mg (.neg l) :=
  .of_ev (fun N e m => uop_el m fun x p m => rfl) fun X m q => uop_el m fun x p m => wpAny_UnaryOp (X.nest (ih.ev X m q) fun a s' μ' b H' X' E' r q l => by
    obtain ⟨i, rfl, q⟩ := q
    exact (wp_neg X'.core r q).lift l)
theorem PEs.nil : PEs prog w base caddr mg [] where
  ev := fun X m q => by obtain rfl := List.isEmpty_iff.mp m; exact wpAny_pure (Wp.here X.core ⟨VRels.nil, rfl⟩ q)
  and := fun X m q => q.elim
  or := fun X m q => q.elim
  andT := fun X m q => q.elim
  orT := fun X m q => q.elim
  cs := fun X m q => by obtain rfl := List.isEmpty_iff.mp m; exact wpAny_pure (Wp.here X.core rfl q)
theorem boolOp_one {P : Value → Shared → Prop} {E : Value → Shared → Prop} {op : BoolOp} {pos : Pos} {t : Sem Value} (h : wpAny (model prog w) A t P E s) : wpAny (model prog w) A (boolOp pos op [t]) P E s := h
theorem bool_step {l : LE} {x : Expr} (ih : PE prog w base caddr mg l) {Q₁ : Bool → V → Hp → Prop} {Q : V → Hp → Prop} {pos : Pos} {k : Value → Bool → Sem Value} (X : Sit prog w base caddr mg env ρ A n Cp μ s H) (m : mE env.scope.names l x = true)
    (q : wpE Cp l ρ (fun v H => ∃ t, truthyV H v = some t ∧ Q₁ t v H) H) (hk : ∀ a t s' μ' b H', Sit prog w base caddr mg env ρ A n Cp μ' s' H' → VRel μ' s'.heap b a → Q₁ t b H' → Wp prog w base caddr A (k a t) VRel Q μ' s') :
    Wp prog w base caddr A (eval x env >>= fun v => standAt pos >>= fun _ => holding [v] (truthy v) >>= fun t => k v t) VRel Q μ s :=
  wpAny_bind (X.nest (ih.ev X m q) fun a s' μ' b H' X' E' r q l => by
    obtain ⟨t, ht, q⟩ := q
    refine wpAny_bind (wpAny_standAt (wpAny_bind (X'.nest (Wp.holding (wp_truthy X'.core r ht (Q := fun t' H => Q₁ t' b H) q)) fun t' s2 μ2 b2 H2 X2 E2 r2 q2 l2 => ?_)))
    obtain rfl : b2 = t' := r2
    exact (hk a b2 s2 μ2 b H2 X2 (r.ext E2) q2).lift (l.trans l2))
theorem trQ_and (P : Hp → Prop) (Q : Bool → Hp → Prop) : (fun v H => ∃ t, truthyV H v = some t ∧ (if t then P H else trQ Q v H)) = trQ fun t H => if t then P H else Q false H :=
  funext fun v => funext fun H => propext ⟨fun ⟨t, h, q⟩ => ⟨t, h, by
    cases t with
    | true => exact q
    | false => obtain ⟨b, e, q⟩ := q; rw [h] at e; cases e; exact q⟩, fun ⟨t, h, q⟩ => ⟨t, h, by
    cases t with
    | true => exact q
    | false => exact ⟨false, h, q⟩⟩⟩
theorem trQ_or (P : Hp → Prop) (Q : Bool → Hp → Prop) : (fun v H => ∃ t, truthyV H v = some t ∧ (if t then trQ Q v H else P H)) = trQ fun t H => if t then Q true H else P H :=
  funext fun v => funext fun H => propext ⟨fun ⟨t, h, q⟩ => ⟨t, h, by
    cases t with
    | false => exact q
    | true => obtain ⟨b, e, q⟩ := q; rw [h] at e; cases e; exact q⟩, fun ⟨t, h, q⟩ => ⟨t, h, by
    cases t with
    | false => exact q
    | true => exact ⟨true, h, q⟩⟩⟩
theorem conds_false {r : List Expr} {P : Bool → Shared → Prop} {E : Value → Shared → Prop} (h : P false s) :
    wpAny (model prog w) A (forIn r false fun c r => if r = true then do let ok ← isTrue c env (eval c env); pure (ForInStep.yield ok) else pure (ForInStep.yield r)) P E s := by
  induction r with
  | nil => exact wpAny_pure h
  | cons c r ih => rw [List.forIn_cons]; exact wpAny_bind (wpAny_pure ih)
theorem PEs.cons {l : LE} {ls : List LE} (ih : PE prog w base caddr mg l) (ihs : PEs prog w base caddr mg ls) : PEs prog w base caddr mg (l :: ls) where
  ev := fun {pos xs env ρ A n C μ s H Q} X m q => un_el m fun x r m => an m fun m1 m2 => wpAny_items_cons (X.nest (ih.ev X m1 q) fun a s' μ' b H' X' E' r q l => wpAny_mono (ihs.ev (pos := pos) X' m2 q)
    (fun vs s2 z => l _ _ _ _ (z.el fun h₂ tk₂ μ₂ b₂ H₂ c₂ x₂ r₂ q₂ => .mk h₂ tk₂ μ₂ (b :: b₂) H₂ rfl c₂ x₂ ⟨VRels.cons (r.ext x₂) r₂.1, congrArg (· + 1) r₂.2⟩ q₂)) fun _ _ x => x) (star_cons m1)
  and := fun {pos xs env ρ A n C μ s H Q} X m q => un_el m fun x r m => an m fun m1 m2 => by
    cases ls with
    | nil => obtain rfl := List.isEmpty_iff.mp m2; exact boolOp_one (ih.ev X m1 q)
    | cons l' ls => cases r with
      | nil => cases m2
      | cons x' r =>
        refine bool_step (Q₁ := fun t v H => if t then wpAnd C (l' :: ls) ρ Q H else Q v H) ih X m1 q fun a t s' μ' b H' X' r q => ?_
        cases t with
        | false => exact Wp.pure X'.core r q
        | true => exact ihs.and (pos := pos) X' m2 q
  or := fun {pos xs env ρ A n C μ s H Q} X m q => un_el m fun x r m => an m fun m1 m2 => by
    cases ls with
    | nil => obtain rfl := List.isEmpty_iff.mp m2; exact boolOp_one (ih.ev X m1 q)
    | cons l' ls => cases r with
      | nil => cases m2
      | cons x' r =>
        refine bool_step (Q₁ := fun t v H => if t then Q v H else wpOr C (l' :: ls) ρ Q H) ih X m1 q fun a t s' μ' b H' X' r q => ?_
        cases t with
        | true => exact Wp.pure X'.core r q
        | false => exact ihs.or (pos := pos) X' m2 q
  andT := fun {pos xs env ρ A n C μ s H Q} X m q => un_el m fun x r m => an m fun m1 m2 => by
    cases ls with
    | nil =>
      obtain rfl := List.isEmpty_iff.mp m2
      refine wpAny_allTrue_And_cons (X.nest (ih.tr X m1 q) fun t s' μ' b H' X' E' r q l => ?_)
      obtain rfl : b = t := r
      cases b with
      | false => exact l _ _ _ _ (Wp.here X'.core rfl q)
      | true => exact wpAny_allTrue_And_nil (l _ _ _ _ (Wp.here X'.core rfl q))
    | cons l' ls =>
      refine wpAny_allTrue_And_cons (X.nest (ih.tr X m1 ((congrArg (fun P => wpE C l ρ P H) (trQ_and (wpAnd C (l' :: ls) ρ (trQ Q)) Q)).mp q)) fun t s' μ' b H' X' E' r q l => ?_)
      obtain rfl : b = t := r
      cases b with
      | false => exact l _ _ _ _ (Wp.here X'.core rfl q)
      | true => exact (ihs.andT (pos := pos) X' m2 q).lift l
  orT := fun {pos xs env ρ A n C μ s H Q} X m q => un_el m fun x r m => an m fun m1 m2 => by
    cases ls with
    | nil =>
      obtain rfl := List.isEmpty_iff.mp m2
      refine wpAny_allTrue_Or_cons (X.nest (ih.tr X m1 q) fun t s' μ' b H' X' E' r q l => ?_)
      obtain rfl : b = t := r
      cases b with
      | true => exact l _ _ _ _ (Wp.here X'.core rfl q)
      | false => exact wpAny_allTrue_Or_nil (l _ _ _ _ (Wp.here X'.core rfl q))
    | cons l' ls =>
      refine wpAny_allTrue_Or_cons (X.nest (ih.tr X m1 ((congrArg (fun P => wpE C l ρ P H) (trQ_or (wpOr C (l' :: ls) ρ (trQ Q)) Q)).mp q)) fun t s' μ' b H' X' E' r q l => ?_)
      obtain rfl : b = t := r
      cases b with
      | true => exact l _ _ _ _ (Wp.here X'.core rfl q)
      | false => exact (ihs.orT (pos := pos) X' m2 q).lift l
  cs := fun {pos xs env ρ A n C μ s H Q} X m q => un_el m fun x r m => an m fun m1 m2 => by
    show wpAny _ _ (forIn (x :: r) true _) _ _ _
    rw [List.forIn_cons]
    refine wpAny_bind (wpAny_bind (X.nest (ih.tr X m1 q) fun t s' μ' b H' X' E' rr q l => wpAny_pure ?_))
    obtain rfl : b = t := rr
    cases b with
    | false => exact conds_false (l _ _ _ _ (Wp.here X'.core rfl q))
    | true => exact (ihs.cs (pos := pos) X' m2 q).lift l
end
end Mine
end
noncomputable section
open PySem PySem.W PyProof.Rows
set_option maxRecDepth 100000
namespace Mine
section
variable {prog : Program} {w : World} {base : Heap} {caddr : Cls → Addr} {K : Frag} {mg mb : Str → Option Value}
variable {A : Around} {μ : Mu} {s : Shared} {H : Hp} {env : PySem.Env} {ρ : Env} {P : Value → Shared → Prop} {F : Value → Shared → Prop} {n : Nat} {Cp : CallP} {e : Expr}
theorem name_global (S : Stat K base mg mb caddr) (X : Sit prog w base caddr mg env ρ A n Cp μ s H) {x : String} {v : Value} {p : Pos} (hk : isG env.scope.names x = true) (hm : mg (Str.ofString x) = some v) (hd : dbg x = false)
    (h : P v s) : wpAny (model prog w) A (eval (.Name (Str.ofString x) p) env) P F s :=
  PySem.Calls.Name_function_global X.env.kind (isG_of hk) (PySem.Calls.loadGlobal_global (X.env.glob ▸ S.g.keeps X.core.bas) hm h) hd
theorem name_builtin (S : Stat K base mg mb caddr) (X : Sit prog w base caddr mg env ρ A n Cp μ s H) {x : String} {v : Value} {p : Pos} (hk : isG env.scope.names x = true) (hm : mg (Str.ofString x) = none)
    (hb : bootBuiltins (Str.ofString x) = some v) (hn : Str.ofString x ≠ "__name__") (hd : dbg x = false) (h : P v s) : wpAny (model prog w) A (eval (.Name (Str.ofString x) p) env) P F s :=
  PySem.Calls.Name_function_global X.env.kind (isG_of hk) (PySem.Calls.loadGlobal_builtin (X.env.glob ▸ S.g.keeps X.core.bas) hm (X.env.blt ▸ S.b.keeps X.core.bas) ((S.bt _ hn).trans hb) h) hd
theorem evalArgs_spl {f : Value} {N : Names} {ls : List LE} {xs : List Expr} {pos : Pos} {P : Args → Shared → Prop} (m : mEs N ls xs = true) (h : wpAny (model prog w) A (spliced (backTo pos (starEach xs env))) (fun vs s' => P ⟨vs, []⟩ s') F s) :
    wpAny (model prog w) A (evalArgs f true (backTo pos (starEach xs env)) []) P F s := by
  cases xs with
  | nil =>
    show wpAny _ A (spliced [] >>= _) P F s
    exact wpAny_bind (wpAny_mono (show wpAny (model prog w) A (spliced []) _ F s from h) (fun vs s' h' => wpAny_bind (wpAny_pure (wpAny_holding (wpAny_bind (wpAny_pure (wpAny_bind (wpAny_pure (wpAny_pure h')))))))) fun _ _ x => x)
  | cons x r => cases ls with
    | nil => cases m
    | cons l ls => exact an m fun m1 _ => by rw [star_cons m1] at h ⊢; exact PySem.Calls.evalArgs_plain h
theorem PE.call (S : Stat K base mg mb caddr) (G : StatG K mg) (f : String) {es : List LE} (ih : PEs prog w base caddr mg es) : PE prog w base caddr mg (.call f es) :=
  .of_ev (fun N e m => plain_of m rfl) fun X m q => cl_el m fun g xs pos m => an m fun hg m => an m fun hf m => nmIs_el hg fun p hg hd => by
    obtain ⟨v, hv, hk⟩ := G.fn f (List.contains_iff_mem.mp hf)
    refine wpAny_Call_ofName (name_global S X hg hv hd ?_)
    refine callWith_of (P := fun h => K.In h) (by rw [(stars_plain m).1]; rfl) (keeps_K hk) (evalArgs_spl m ?_)
    exact X.nest (ih.ev X m q) fun vs s' μ' b H' X' E' r q l => ⟨S.X.keeps X'.core.bas, (X.call f b _ H' v q hv _ μ' s' vs X.ctx X'.core r.1).lift l⟩
theorem keywords_nil {pos : Pos} : (backToKw pos (keywordEach [] env)).all (fun x => x.1.isSome) = true := rfl
theorem PE.meth (S : Stat K base mg mb caddr) {l : LE} (m : Mth) {es : List LE} (ih : PE prog w base caddr mg l) (ihs : PEs prog w base caddr mg es) : PE prog w base caddr mg (.meth l m es) :=
  .of_ev (fun N e m => plain_of m rfl) fun {e env ρ A n C μ s H Q} X mm q => meIs_el mm fun o ap xs p hb hline mm => an mm fun hlen mm => an mm fun m1 m2 => by
    refine wpAny_Call_method_late (base_plain hb) (by rw [(stars_plain m2).2, keywords_nil]; exact decide_eq_true (of_decide_eq_true hlen : xs.length < 30)) hline rfl ?_
    refine X.nest (ih.ev X m1 q) fun ov s' μ' b H' X' E' r q l => ?_
    obtain ⟨i, rfl, q⟩ := q
    refine r.oel fun a ma => ?_
    rcases q with ⟨xs', hi, hm, q⟩ | ⟨ep, es', hi, hm, q⟩
    · have TI := typeIs_list X'.core ma hi
      have key : wpAny (model prog w) A (callWith p (.builtin ("list." ++ m.s)) [.ref a] (backTo p (starEach xs env)) []) (EndW prog w base caddr VRel Q μ s) (fun _ _ => False) s' :=
        PySem.Calls.callWith_builtin (stars_plain m2).1 (evalArgs_spl m2 (X'.nest (ihs.ev X' m2 q) fun vs s2 μ2 b2 H2 X2 E2 r2 q2 l2 => (wp_methL X2.core (E2.mu _ _ _ ma) r2.1 q2).lift (l.trans l2)))
      cases m with
      | append => exact ⟨_, _, PySem.F.plainAttrs_list, PySem.F.slot_list_append, PySem.F.type_list_append, TI.1, TI.2, key⟩
      | extend => exact ⟨_, _, PySem.F.plainAttrs_list, PySem.F.slot_list_extend, PySem.F.type_list_extend, TI.1, TI.2, key⟩
      | pop => exact ⟨_, _, PySem.F.plainAttrs_list, PySem.F.slot_list_pop, PySem.F.type_list_pop, TI.1, TI.2, key⟩
      | remove => exact ⟨_, _, PySem.F.plainAttrs_list, PySem.F.slot_list_remove, PySem.F.type_list_remove, TI.1, TI.2, key⟩
      | get => exact absurd rfl hm
    · have TI := typeIs_dict X'.core ma hi
      have key : wpAny (model prog w) A (callWith p (.builtin ("dict." ++ m.s)) [.ref a] (backTo p (starEach xs env)) []) (EndW prog w base caddr VRel Q μ s) (fun _ _ => False) s' :=
        PySem.Calls.callWith_builtin (stars_plain m2).1 (evalArgs_spl m2 (X'.nest (ihs.ev X' m2 q) fun vs s2 μ2 b2 H2 X2 E2 r2 q2 l2 => (wp_methD S X2.core (E2.mu _ _ _ ma) r2.1 q2).lift (l.trans l2)))
      rcases hm with rfl | rfl
      · exact ⟨_, _, PySem.F.plainAttrs_dict, PySem.F.slot_dict_get, PySem.F.type_dict_get, TI.1, TI.2, key⟩
      · exact ⟨_, _, PySem.F.plainAttrs_dict, PySem.F.slot_dict_pop, PySem.F.type_dict_pop, TI.1, TI.2, key⟩
theorem meth0_dict {m id : String} {o : Expr} {ap p : Pos} (hm : (m = "values" ∧ id = "dict.values") ∨ (m = "items" ∧ id = "dict.items")) (hb : notCall0 o = true) (hline : (ap.endLine == p.line) = true)
    (h : wpAny (model prog w) A (eval o env) (fun ov s₁ => (s₁.TypeIs ov "dict" ∧ (∀ b, ov = .ref b → ∃ ob, s₁.heap.get? b = some ob ∧ ob.dict = none)) ∧ wpAny (model prog w) A (PySem.call (.builtin id) [ov]) P F s₁) F s) :
    wpAny (model prog w) A (eval (.Call (.Attribute o (Str.ofString m) ap) [] [] p) env) P F s := by
  refine wpAny_Call_method0_late (base_plain hb) hline (wpAny_mono h (fun ov s₁ q => ?_) fun _ _ x => x)
  have key : wpAny (model prog w) A (callWith p (.builtin id) [ov] [] []) P F s₁ := PySem.Calls.callWith_builtin rfl (PySem.evalArgs_none q.2)
  rcases hm with ⟨rfl, rfl⟩ | ⟨rfl, rfl⟩
  · exact ⟨_, _, PySem.F.plainAttrs_dict, PySem.F.slot_dict_values, PySem.F.type_dict_values, q.1.1, q.1.2, key⟩
  · exact ⟨_, _, PySem.F.plainAttrs_dict, PySem.F.slot_dict_items, PySem.F.type_dict_items, q.1.1, q.1.2, key⟩
theorem call1 {x : Str} {f : Value} {a : Expr} {p pos : Pos} (hf : (∃ id, f = .builtin id) ∨ ∃ T, f = .type T) (ha : okI a.ctorIdx = true) (hn : ∀ {P : Value → Shared → Prop}, P f s → wpAny (model prog w) A (eval (.Name x p) env) P F s)
    (h : wpAny (model prog w) A (eval a env) (fun v s₁ => wpAny (model prog w) A (PySem.call f [v]) P F s₁) F s) : wpAny (model prog w) A (eval (.Call (.Name x p) [a] [] pos) env) P F s := by
  refine wpAny_Call_ofName (hn ?_)
  rw [star_plain ha]
  have hs : wpAny (model prog w) A (spliced [(false, eval a env)]) (fun vs s₁ => wpAny (model prog w) A (PySem.call f vs) P F s₁) F s :=
    PySem.Calls.spliced_cons (wpAny_mono h (fun v s₁ q => PySem.Calls.spliced_nil q) fun _ _ x => x)
  rcases hf with ⟨id, rfl⟩ | ⟨T, rfl⟩
  · exact PySem.Calls.callWith_builtin rfl (PySem.Calls.evalArgs_plain hs)
  · exact PySem.callWith_type rfl (PySem.Calls.evalArgs_plain hs)
structure BltV (b : String) (v : Value) : Prop where
  boot : bootBuiltins (Str.ofString b) = some v
  ne : Str.ofString b ≠ "__name__"
  mem : b ∈ ["len", "list", "sorted", "set", "reversed", "enumerate", "range"]
  kind : (∃ id, v = .builtin id) ∨ ∃ T, v = .type T
theorem b_len : BltV "len" (.builtin "len") := ⟨by decide +kernel, by decide +kernel, .head _, .inl ⟨_, rfl⟩⟩
theorem b_list : BltV "list" (.type "list") := ⟨by decide +kernel, by decide +kernel, .tail _ (.head _), .inr ⟨_, rfl⟩⟩
theorem b_sorted : BltV "sorted" (.builtin "sorted") := ⟨by decide +kernel, by decide +kernel, .tail _ (.tail _ (.head _)), .inl ⟨_, rfl⟩⟩
theorem b_set : BltV "set" (.type "set") := ⟨by decide +kernel, by decide +kernel, .tail _ (.tail _ (.tail _ (.head _))), .inr ⟨_, rfl⟩⟩
theorem b_reversed : BltV "reversed" (.type "reversed") := ⟨by decide +kernel, by decide +kernel, .tail _ (.tail _ (.tail _ (.tail _ (.head _)))), .inr ⟨_, rfl⟩⟩
theorem b_enumerate : BltV "enumerate" (.type "enumerate") := ⟨by decide +kernel, by decide +kernel, .tail _ (.tail _ (.tail _ (.tail _ (.tail _ (.head _))))), .inr ⟨_, rfl⟩⟩
theorem b_range : BltV "range" (.type "range") := ⟨by decide +kernel, by decide +kernel, .tail _ (.tail _ (.tail _ (.tail _ (.tail _ (.tail _ (.head _)))))), .inr ⟨_, rfl⟩⟩
theorem blt1 (S : Stat K base mg mb caddr) (G : StatG K mg) (X : Sit prog w base caddr mg env ρ A n Cp μ s H) {b : String} {f : Value} {k : Expr → Bool} (hb : BltV b f) (hu : uC1 env.scope.names b k e = true) (ha : ∀ a, k a = true → okI a.ctorIdx = true)
    (h : ∀ a, k a = true → wpAny (model prog w) A (eval a env) (fun v s₁ => wpAny (model prog w) A (PySem.call f [v]) P F s₁) F s) : wpAny (model prog w) A (eval e env) P F s :=
  uC1_el hu fun a p pos hg hd hk => call1 hb.kind (ha a hk) (fun q => name_builtin S X hg (G.nob _ hb.mem) hb.boot hb.ne hd q) (h a hk)
theorem uC1_ok {N : Names} {f : String} {k : Expr → Bool} (h : uC1 N f k e = true) : okI e.ctorIdx = true := uC1_el h fun _ _ _ _ _ _ => rfl
theorem uM0_ok {m : String} {k : Expr → Bool} (h : uM0 m k e = true) : okI e.ctorIdx = true := uM0_el h fun _ _ _ _ _ _ => rfl
theorem blt_view (S : Stat K base mg mb caddr) (G : StatG K mg) {es : LE} (ih : PE prog w base caddr mg es) (X : Sit prog w base caddr mg env ρ A n Cp μ s H) {m id : String} {b : Bool} {Q : V → Hp → Prop} (hm : (m = "values" ∧ id = "dict.values") ∨ (m = "items" ∧ id = "dict.items"))
    (hu : uC1 env.scope.names "list" (uM0 m (mE env.scope.names es)) e = true) {R : Id → Nat → List (Int × V) → Hp → Prop} (q : wpE Cp es ρ (fun v H => ∃ i ep es, v = .obj i ∧ H i = some (.dict ep es) ∧ R i ep es H) H)
    (h1 : ∀ {μ s H i v ep es}, Core prog w base caddr μ H s.heap → VRel μ s.heap (.obj i) v → H i = some (.dict ep es) → Wp prog w base caddr A (PySem.call (.builtin id) [v]) (ViewOf b) (fun j H' => j = i ∧ H' = H) μ s)
    (h2 : ∀ {μ s H i v ep es}, Core prog w base caddr μ H s.heap → ViewOf b μ s.heap i v → H i = some (.dict ep es) → R i ep es H → Wp prog w base caddr A (PySem.call (.type "list") [v]) VRel Q μ s) : Wp prog w base caddr A (eval e env) VRel Q μ s :=
  blt1 S G X b_list hu (fun a => uM0_ok) fun a ha => uM0_el ha fun o ap p hb hl ha => meth0_dict hm hb hl (X.nest (ih.ev X ha q) fun v s' μ' Z H' X' E' r q l => by
    obtain ⟨i, ep, es', rfl, hi, q⟩ := q
    refine ⟨r.oel fun av ma => typeIs_dict X'.core ma hi, X'.nest (h1 X'.core r hi) fun v2 s2 μ2 j H2 X2 E2 r2 q2 l2 => ?_⟩
    obtain ⟨rfl, rfl⟩ := q2
    exact (h2 X2.core r2 hi q).lift (l.trans l2))
theorem blt_empty (S : Stat K base mg mb caddr) {es : LE} (ih : PE prog w base caddr mg es) (X : Sit prog w base caddr mg env ρ A n Cp μ s H) {l : Expr} {p : Pos} {Q : V → Hp → Prop} (m : mE env.scope.names es l = true) (q : wpE Cp (.blt .isEmpty es) ρ Q H) :
    wpAny (model prog w) A (eval l env) (fun a s₁ => wpAny (model prog w) A (eval (.Dict [] [] p) env) (fun b s₂ => wpAny (model prog w) A (compareOp .Eq a b) (EndW prog w base caddr VRel Q μ s) (fun _ _ => False) s₂) (fun _ _ => False) s₁) (fun _ _ => False) s :=
  X.nest (ih.ev X m q) fun v s' μ' Z H' X' E' r q l => by
    obtain ⟨i, ep, es', rfl, hi, q⟩ := q
    refine wpAny_Dict_empty (Core.dictAt r X'.core hi fun av kvs ma D rr z => ?_)
    have lo2 : (s'.heap.objs.size == sysModules) = false := beq_eq_false_iff_ne.mpr (Nat.ne_of_gt (Nat.lt_trans (by decide) (X'.core.new_low (Nat.le_refl _))))
    refine keq_eq (knd := knd prog w) (r := true) (sys_low S X'.core ma) lo2 (D.push { cls := .type "dict", data := .dict #[] }).dictOf dictAt_nil.dictOf (by have := X.ctx.units; rw [cLine_is]; lia) (fun e => ?_) ?_
    · obtain rfl : kvs = [] := List.eq_nil_of_length_eq_zero e; exact .nil
    · have e : (kvs.length == ([] : List (Int × Value)).length && true) = es'.isEmpty := by
        cases es' with
        | nil => rw [rr.length]; rfl
        | cons _ _ => rw [rr.length]; rfl
      rw [e]
      exact l _ _ _ _ (.mk _ s'.toks μ' (V.bool es'.isEmpty) H' rfl (X'.core.push _) (Ext.push _ _ _) VRel.b q)
theorem blt_ev (S : Stat K base mg mb caddr) (G : StatG K mg) {b : Blt} {es : LE} (ih : PE prog w base caddr mg es) (X : Sit prog w base caddr mg env ρ A n Cp μ s H) {Q : V → Hp → Prop} (m : mE env.scope.names (.blt b es) e = true) (q : wpE Cp (.blt b es) ρ Q H) :
    Wp prog w base caddr A (eval e env) VRel Q μ s := by
  have ok : ∀ a, mE env.scope.names es a = true → okI a.ctorIdx = true := fun a => mE_ok
  cases b with
  | len => exact blt1 S G X b_len m ok fun a ha => X.nest (ih.ev X ha q) fun v s' μ' Z H' X' E' r q l => by obtain ⟨i, xs, rfl, hi, q⟩ := q; exact (wp_lenList X'.core r hi q).lift l
  | list => exact blt1 S G X b_list m ok fun a ha => X.nest (ih.ev X ha q) fun v s' μ' Z H' X' E' r q l => by obtain ⟨i, xs, rfl, hi, q⟩ := q; exact (wp_listList X'.core r hi q).lift l
  | sorted =>
    exact blt1 S G X b_sorted m ok fun a ha => X.nest (ih.ev X ha q) fun v s' μ' Z H' X' E' r q l => by
      obtain ⟨i, rfl, ⟨xs, ns, hi, h1, h2, q⟩ | ⟨ep, es, hi, h1, q⟩⟩ := q
      · exact (wp_sortedList X'.core r hi h1 h2 q).lift l
      · exact (wp_sortedDict S X.ctx X'.core r hi h1 q).lift l
  | lenSet =>
    exact blt1 S G X b_len m (fun a => uC1_ok) fun a ha => blt1 S G X b_set ha ok fun a ha => X.nest (ih.ev X ha q) fun v s' μ' Z H' X' E' r q l => by
      obtain ⟨i, xs, ns, rfl, hi, h1, h2, h3, q⟩ := q
      exact X'.nest (wp_setList X.ctx X'.core r hi h1 h2 h3 (Q := fun m H => Q (.int m) H) q) fun v2 s2 μ2 m2 H2 X2 E2 r2 q2 l2 => (wp_lenSet X2.core r2 q2).lift (l.trans l2)
  | listValues => exact blt_view S G ih X (.inl ⟨rfl, rfl⟩) m q (fun C r hi => wp_values S C r hi ⟨rfl, rfl⟩) fun C r hi q => wp_listValues X.ctx C r hi q
  | listItems => exact blt_view S G ih X (.inr ⟨rfl, rfl⟩) m q (fun C r hi => wp_items S C r hi ⟨rfl, rfl⟩) fun C r hi q => wp_listItems X.ctx C r hi q
  | isEmpty => exact cm_el m fun l r p m => an m fun m1 m2 => dct0_el m1 fun p => wpAny_Compare1 (blt_empty S ih X m2 q) rfl
theorem PE.blt (S : Stat K base mg mb caddr) (G : StatG K mg) (b : Blt) {es : LE} (ih : PE prog w base caddr mg es) : PE prog w base caddr mg (.blt b es) where
  ev := fun X m q => blt_ev S G ih X m q
  tr := fun X m q => by
    cases b with
    | isEmpty => exact cm_el m fun l r p m => an m fun m1 m2 => dct0_el m1 fun p =>
        wpAny_isTrue_Compare1 (wpAny_mono (blt_empty S ih X m2 q) (fun _ _ k => wpAny_mono k (fun _ _ k => wpAny_mono k (fun c s₂ z => z.truth) fun _ _ x => x) fun _ _ x => x) fun _ _ x => x) rfl
    | _ => exact Wp.truth (plain_of m rfl) (blt_ev S G ih X m q)
end
end Mine
end
noncomputable section
open PySem PySem.W PyProof.Rows
set_option maxRecDepth 100000
namespace Mine
section
variable {prog : Program} {w : World} {base : Heap} {caddr : Cls → Addr} {K : Frag} {mg mb : Str → Option Value}
variable {A : Around} {μ μ' : Mu} {s : Shared} {h h' : Heap} {H : Hp} {env : PySem.Env} {ρ : Env} {P : Value → Shared → Prop} {F : Value → Shared → Prop} {n : Nat}
theorem mu_adopt {i : Id} {a : Nat} {j : Id} {t : Bool} {b : Nat} (hi : ∀ t, μ i t = none) (e : μ j t = some b) : (μ.set i false a) j t = some b := by
  rw [Mu.set_ne _ _ fun q => by rw [q.1, hi] at e; cases e]; exact e
theorem adopt_tup {i : Id} {a : Nat} {oa : Obj} (ha : h.get? a = some oa) (hc : oa.cls ≠ .type "tuple") (b : Nat) (items : Array Value) (T : IsTup h b items) (n : ∀ j t, μ j t ≠ some b) : IsTup h b items ∧ ∀ j t, (μ.set i false a) j t ≠ some b :=
  ⟨T, fun j t e => Mu.set_el e (fun _ _ z => by
    obtain ⟨o, ho, hc', _⟩ := T
    rw [z, ha] at ho; cases ho; exact hc hc') (n j t)⟩
theorem Core.adopt {i : Id} {a : Nat} {oa : Obj} {o' : O} (C : Core prog w base caddr μ H h) (hi : H i = none) (hn : ∀ j t, μ j t ≠ some a) (hb : base.get? a = none) (hl : cStatics < a) (ha : h.get? a = some oa) (hc : oa.cls ≠ .type "tuple")
    (new : OOk prog w caddr (μ.set i false a) h i o') : Core prog w base caddr (μ.set i false a) (H.set i o') h := by
  have hi' := C.dom i hi
  have mu : ∀ j t b, μ j t = some b → (μ.set i false a) j t = some b := fun j t b => mu_adopt hi'
  refine ⟨fun j o ho => ?_, fun j hj t => ?_, Mu.Inj.set C.inj hn, fun j t b e => Mu.set_el e (fun _ _ z => by rw [z]; exact ⟨hb, hl, _, ha⟩) (C.off j t b), C.bas, C.low⟩
  · by_cases hji : j = i
    · subst hji; rw [Hp.set_self] at ho; cases ho; exact new
    · rw [Hp.set_ne _ _ hji] at ho
      exact (C.objs j o ho).each mu (VRel.gen mu (adopt_tup ha hc)) fun _ _ _ _ e => e
  · by_cases hji : j = i
    · subst hji; rw [Hp.set_self] at hj; cases hj
    · rw [Hp.set_ne _ _ hji] at hj; rw [Mu.set_ne _ _ fun q => hji q.1]; exact C.dom j hj t
theorem Core.listZ {i : Id} {xs : List V} (C : Core prog w base caddr μ H h) (hi : H i = some (.list xs)) : xs.length ≤ LIM := by cases C.objs i _ hi with | list _ _ _ z => exact z
theorem Core.dictZ {i : Id} {ep : Nat} {es : List (Int × V)} (C : Core prog w base caddr μ H h) (hi : H i = some (.dict ep es)) : es.length ≤ LIM := by cases C.objs i _ hi with | dict _ _ _ z => exact z
theorem src_len {k : SrcK} {Z : V} {items : List V} {keep : Option Id} (C : Core prog w base caddr μ H h) (hs : srcOf k H Z = some (items, keep)) (h1 : k ≠ .range) : items.length ≤ LIM := by
  cases k with
  | plain =>
    refine objV_el hs fun i hZ e => ?_
    have e : srcP i (H i) = some (items, keep) := e
    generalize hi : H i = o at e
    cases o with
    | none => cases e
    | some o => cases o with
      | inst _ _ => cases e
      | list xs => cases e; exact C.listZ hi
      | dict ep es => cases e; rw [List.length_map]; exact C.dictZ hi
  | rev =>
    exact objV_el hs fun i hZ e => listP_el e fun xs hi e => by cases e; rw [List.length_reverse]; exact C.listZ hi
  | values =>
    exact objV_el hs fun i hZ e => dictP_el e fun ep es hi e => by cases e; rw [List.length_map]; exact C.dictZ hi
  | enum => exact objV_el hs fun i hZ e => listP_el e fun xs hi e => by cases e; rw [List.length_map, List.length_zipIdx]; exact C.listZ hi
  | range =>
    exact absurd rfl h1
theorem iterRange (hh : A.handled = none) {Z : V} {v : Value} {items : List V} {keep : Option Id} (C : Core prog w base caddr μ H s.heap) (rv : VRel μ s.heap Z v) (hs : srcOf .range H Z = some (items, keep)) :
    wpAny (model prog w) A (PySem.call (.type "range") [v]) (fun x s₁ => wpAny (model prog w) A (pyIter x) (IterP prog w base caddr A μ H s items keep) F s₁) F s := by
  refine numI_el hs fun N hZ e => iteO_el e fun hN e => ?_
  subst hZ; cases e
  refine rv.iel fun t => call_range_1 ?_
  have hsz : Builtin.Range.rangeSize 0 N 1 = N := by 
    rw [rangeSize_one, Int.sub_zero]
    exact (Int.lt_or_eq_of_le hN.1).elim (fun h => if_pos h) fun h => by rw [← h]; rfl
  refine wpAny_pyIter_range (s := { s with heap := s.heap.push { cls := .type "range", data := .fields #[.int 0 s.toks, .int N t, .int 1 (s.toks + 1)] }, toks := s.toks + 1 + 1 }) (IsRange.new s.heap 0 N 1 s.toks t (s.toks + 1))
    (small_one (by decide) (by decide) (by lia) (by lia)) (IterP.under (s := s) (tk := s.toks + 1 + 1) (o := { cls := .type "range", data := .fields #[.int 0 s.toks, .int N t, .int 1 (s.toks + 1)] }) ?_)
  refine iterP_push (s := { s with heap := s.heap.push { cls := .type "range", data := .fields #[.int 0 s.toks, .int N t, .int 1 (s.toks + 1)] }, toks := s.toks + 1 + 1 }) (C.push _) (walker_range hh (N := N.toNat)) ?_
  show IsRangeIter _ _ _ _ _
  rw [hsz, Int.natCast_zero, Int.zero_mul, Int.sub_zero, toNat_cast hN.1]
  exact Heap.get?_push_size _ rfl
theorem iter_src (S : Stat K base mg mb caddr) (G : StatG K mg) {k : SrcK} {src : LE} (ih : PE prog w base caddr mg src) {e : Expr} {Cp : CallP} (X : Sit prog w base caddr mg env ρ A n Cp μ s H) (hu : uSrc env.scope.names (mE env.scope.names src) k e = true) (hk : k ≠ .enum) {R : List V → Option Id → Hp → Prop}
    (q : wpE Cp src ρ (fun v H => ∃ items keep, srcOf k H v = some (items, keep) ∧ R items keep H) H) {P : Value → Shared → Prop}
    (hP : ∀ it s₂ μ₁ H₁ s₁ items keep, Sit prog w base caddr mg env ρ A n Cp μ₁ s₁ H₁ → Ext μ s.heap μ₁ s₁.heap → IterP prog w base caddr A μ₁ H₁ s₁ items keep it s₂ → (k ≠ .range → items.length ≤ LIM) → R items keep H₁ → Over prog w base caddr μ s μ₁ s₁ → P it s₂) :
    wpAny (model prog w) A (eval e env) (fun x s₁ => wpAny (model prog w) A (pyIter x) P (fun _ _ => False) s₁) (fun _ _ => False) s := by
  have ok : ∀ a, mE env.scope.names src a = true → okI a.ctorIdx = true := fun a => mE_ok
  cases k with
  | plain =>
    exact X.nest (ih.ev X hu q) fun v s' μ' Z H' X' E' r q l => by
      obtain ⟨items, keep, hs, q⟩ := q
      exact wpAny_mono (wp_iterPlain S X.ctx.hh X'.core r hs) (fun it s₂ z => hP it s₂ μ' H' s' items keep X' E' z (src_len X'.core hs) q l) fun _ _ x => x
  | rev =>
    exact blt1 S G X b_reversed hu ok fun a ha => X.nest (ih.ev X ha q) fun v s' μ' Z H' X' E' r q l => by
      obtain ⟨items, keep, hs, q⟩ := q
      exact wpAny_mono (wp_iterRev X.ctx.hh X'.core r hs) (fun x s₁ z => wpAny_mono z (fun it s₂ z => hP it s₂ μ' H' s' items keep X' E' z (src_len X'.core hs) q l) fun _ _ x => x) fun _ _ x => x
  | values =>
    exact uM0_el hu fun o ap p hb hl ha => meth0_dict (.inl ⟨rfl, rfl⟩) hb hl (X.nest (ih.ev X ha q) fun v s' μ' Z H' X' E' r q l => by
      obtain ⟨items, keep, hs, q⟩ := q
      refine ⟨?_, wpAny_mono (wp_iterValues X.ctx.hh S X'.core r hs) (fun x s₁ z => wpAny_mono z (fun it s₂ z => hP it s₂ μ' H' s' items keep X' E' z (src_len X'.core hs) q l) fun _ _ x => x) fun _ _ x => x⟩
      refine objV_el hs fun i hZ e => dictP_el e fun ep es hi e => ?_
      subst hZ
      exact r.oel fun av ma => typeIs_dict X'.core ma hi)
  | enum => exact absurd rfl hk
  | range =>
    exact blt1 S G X b_range hu ok fun a ha => X.nest (ih.ev X ha q) fun v s' μ' Z H' X' E' r q l => by
      obtain ⟨items, keep, hs, q⟩ := q
      exact wpAny_mono (iterRange X.ctx.hh X'.core r hs) (fun x s₁ z => wpAny_mono z (fun it s₂ z => hP it s₂ μ' H' s' items keep X' E' z (src_len X'.core hs) q l) fun _ _ x => x) fun _ _ x => x
noncomputable def closN (cells : List (Str × Addr)) : Names → List (Str × Addr) → List (Str × Addr)
  | [], acc => acc
  | p :: r, acc => if p.2 == .free then closN cells r ((p.1, (cells.lookup p.1).getD 0) :: acc) else closN cells r acc
theorem closN_free {cells : List (Str × Addr)} {p : Str × NameKind} {r : Names} {acc : List (Str × Addr)} (h : p.2 = .free) : closN cells (p :: r) acc = closN cells r ((p.1, (cells.lookup p.1).getD 0) :: acc) := if_pos (beq_iff_eq.mpr h)
theorem closN_not {cells : List (Str × Addr)} {p : Str × NameKind} {r : Names} {acc : List (Str × Addr)} (h : p.2 ≠ .free) : closN cells (p :: r) acc = closN cells r acc := if_neg fun z => h (beq_iff_eq.mp z)
theorem closureFor_at {sc : Scope} (hf : ∀ p ∈ sc.names, p.2 = .free → ∃ c, env.cells.lookup p.1 = some c) : closureFor sc env = pure (closN env.cells sc.names []) := by
  have go : ∀ (l : Names) (acc : List (Str × Addr)), (∀ p ∈ l, p.2 = .free → ∃ c, env.cells.lookup p.1 = some c) →
      (forIn l acc fun (x : Str × NameKind) (r : List (Str × Addr)) => (if (x.2 == NameKind.free) = true then do let y ← cellOf env x.1; pure (ForInStep.yield ((x.1, y) :: r)) else pure (ForInStep.yield r) : Sem (ForInStep (List (Str × Addr))))) = pure (closN env.cells l acc) := by
    intro l
    induction l with
    | nil => intro acc _; rfl
    | cons p r ih =>
      intro acc hf
      rw [List.forIn_cons]
      by_cases hp : p.2 = .free
      · obtain ⟨c, hc⟩ := hf p (.head _) hp
        have e : cellOf env p.1 = pure c := by unfold cellOf; rw [hc]
        rw [if_pos (beq_iff_eq.mpr hp), e, pure_bind, pure_bind, closN_free hp, hc]
        exact ih _ fun q hq => hf q (.tail _ hq)
      · rw [if_neg fun z => hp (beq_iff_eq.mp z), pure_bind, closN_not hp]
        exact ih _ fun q hq => hf q (.tail _ hq)
  exact (bind_pure _).trans (go sc.names [] hf)
theorem closN_mem {cells : List (Str × Addr)} {l : Names} {acc : List (Str × Addr)} {x : Str} {c : Addr} (hf : ∀ p ∈ l, p.2 = .free → ∃ c, cells.lookup p.1 = some c) (h : (x, c) ∈ closN cells l acc) : (x, c) ∈ acc ∨ (cells.lookup x = some c ∧ (x, NameKind.free) ∈ l) := by
  induction l generalizing acc with
  | nil => exact .inl h
  | cons p r ih =>
    have ih' := fun acc h => ih (acc := acc) (fun q hq => hf q (.tail _ hq)) h
    by_cases hp : p.2 = .free
    · rw [closN_free hp] at h
      refine (ih' _ h).elim (fun h => (List.mem_cons.mp h).elim (fun e => .inr ?_) .inl) fun h => .inr ⟨h.1, .tail _ h.2⟩
      obtain ⟨c', hc'⟩ := hf p (.head _) hp
      rw [hc'] at e; cases e
      exact ⟨hc', by rw [← hp]; exact .head _⟩
    · rw [closN_not hp] at h
      exact (ih' _ h).imp id fun h => ⟨h.1, .tail _ h.2⟩
theorem closN_has (cells : List (Str × Addr)) {l : Names} {acc : List (Str × Addr)} {x : Str} (h : (x, NameKind.free) ∈ l ∨ (acc.lookup x).isSome = true) : ((closN cells l acc).lookup x).isSome = true := by
  induction l generalizing acc with
  | nil => exact h.elim (fun h => nomatch h) id
  | cons p r ih =>
    by_cases hp : p.2 = .free
    · rw [closN_free hp]
      refine ih ?_
      by_cases hx : x = p.1
      · exact .inr (by rw [List.lookup_cons, beq_iff_eq.mpr hx]; rfl)
      · refine h.imp (fun h => (List.mem_cons.mp h).resolve_left fun e => hx (by rw [← e])) fun h => ?_
        rw [List.lookup_cons, beq_eq_false_iff_ne.mpr hx]; exact h
    · rw [closN_not hp]
      exact ih (h.imp (fun h => (List.mem_cons.mp h).resolve_left fun e => hp (by rw [← e])) id)
theorem lookup_relab {N M : Names} {x : Str} : (relabN N M).lookup x = (M.lookup x).map fun k => if k == .free && N.lookup x == some .cell then .cell else k := by
  induction M with
  | nil => rfl
  | cons p r ih =>
    have e : (relabN N (p :: r)) = (p.1, if p.2 == .free && N.lookup p.1 == some .cell then .cell else p.2) :: relabN N r := by
      unfold relabN; rw [List.map_cons]; congr 1; split <;> rfl
    rw [e, List.lookup_cons, List.lookup_cons]
    by_cases hx : x = p.1
    · subst hx; rw [beq_self_eq_true]; rfl
    · rw [beq_eq_false_iff_ne.mpr hx]; exact ih
structure CompOk (N : Names) (sc : Scope) (x : String) : Prop where
  kind : sc.kind = .function
  loc : sc.names.lookup (Str.ofString x) = some .local
  cell : ∀ p ∈ sc.names, p.2 ≠ .cell
  locs : ∀ p ∈ sc.names, p.2 = .local → sc.names.lookup p.1 = some .local ∧ (p.1 = Str.ofString x ∨ p.1 = Str.ofString ".0")
  free : ∀ p ∈ sc.names, p.2 = .free → N.lookup p.1 = some .cell
  dot : x ≠ ".0"
theorem compOk_of {N : Names} {sc : Scope} {x : String} (h : compOk N sc x = true) : CompOk N sc x := by
  refine an h fun h h4 => an h fun h h3 => an h fun h1 h2 => ?_
  have h3 := List.all_eq_true.mp h3
  refine ⟨eq_of_beq h1, eq_of_beq h2, fun p hp e => an (h3 p hp) fun h _ => an h fun h _ => bne_iff_ne.mp h e, fun p hp e => an (h3 p hp) fun h _ => an h fun _ h => ?_, fun p hp e => an (h3 p hp) fun _ h => ?_, bne_iff_ne.mp h4⟩
  · exact (Bool.or_eq_true_iff.mp h).elim (fun h => absurd e (bne_iff_ne.mp h)) fun h => an h fun h5 h6 => ⟨eq_of_beq h5, (Bool.or_eq_true_iff.mp h6).imp eq_of_beq eq_of_beq⟩
  · exact (Bool.or_eq_true_iff.mp h).elim (fun h => absurd e (bne_iff_ne.mp h)) eq_of_beq
theorem EnvOk.comp {sc : Scope} {x : String} (K0 : CompOk env.scope.names sc x) (eo : EnvOk base env μ h ρ) {Ca : Nat} (hb : base.get? Ca = none) (hm : ∀ i t, μ i t ≠ some Ca) (hne : ∀ b, envX env b → b ≠ Ca)
    (kp : ∀ b o, h.get? b = some o → h'.get? b = some o) (ns : h'.Ns Ca (fun _ => none)) :
    EnvOk base (compEnvC sc (closN env.cells sc.names []) Ca env) μ h' (fun y => if y = x then none else ρ y) := by
  have hf : ∀ p ∈ sc.names, p.2 = .free → ∃ c, env.cells.lookup p.1 = some c := fun p hp e => eo.cell p.1 (K0.free p hp e)
  have hcl : ∀ y c, (y, c) ∈ closN env.cells sc.names [] → env.cells.lookup y = some c ∧ (y, NameKind.free) ∈ sc.names := fun y c hy => (closN_mem hf hy).resolve_left fun q => nomatch q
  have hin : ∀ y c, (y, c) ∈ closN env.cells sc.names [] → envX env c := fun y c hy => .inr ⟨y, lookup_mem (hcl y c hy).1⟩
  have hk : ∀ y, (compEnvC sc (closN env.cells sc.names []) Ca env).kindOf y = (sc.names.lookup y).map fun k => if k == .free && env.scope.names.lookup y == some .cell then .cell else k := fun y => by
    rw [← lookup_relab]
    unfold PySem.Env.kindOf compEnvC relabel relabN
    rw [eo.kind]
    refine congrArg (List.lookup y) (List.map_congr_left fun p _ => ?_)
    obtain ⟨n, k⟩ := p
    show (if (k == NameKind.free && _ && env.kindOf n == some NameKind.cell) = true then (n, NameKind.cell) else (n, k)) = _
    rw [beq_self_eq_true, Bool.and_true]
    rfl
  have free_of : ∀ y, (compEnvC sc (closN env.cells sc.names []) Ca env).kindOf y = some .cell → (y, NameKind.free) ∈ sc.names := fun y hy => by
    rw [hk] at hy
    obtain ⟨k, h1, h2⟩ := Option.map_eq_some_iff.mp hy
    by_cases hkf : k = .free
    · exact hkf ▸ lookup_mem h1
    · rw [if_neg fun z => an z fun z _ => hkf (eq_of_beq z)] at h2
      exact absurd h2 (K0.cell _ (lookup_mem h1))
  refine ⟨K0.kind, eo.glob, eo.blt, fun b q => ?_, fun y c hy => hne c (hin y c hy), fun y z c hy hz => eo.inj y z c (lookup_mem (hcl y c hy).1) (lookup_mem (hcl z c hz).1), fun y c hy => ?_, fun y hy => ?_, fun _ => none, ns, fun y Z hy hv => ?_⟩
  · rcases q with rfl | ⟨y, hy⟩
    · exact ⟨hb, hm⟩
    · exact eo.off b (hin y b hy)
  · obtain ⟨o, v, h1, h2⟩ := eo.cells y c (lookup_mem (hcl y c hy).1)
    exact ⟨o, v, kp c o h1, h2⟩
  · exact Option.isSome_iff_exists.mp (closN_has env.cells (.inl (free_of y hy)))
  · by_cases hyx : y = x
    · rw [if_pos hyx] at hy; cases hy
    · rw [if_neg hyx] at hy
      rcases hv.2 with hl | hc
      · rw [hk] at hl
        obtain ⟨k, h1, h2⟩ := Option.map_eq_some_iff.mp hl
        have hkl : k = .local := by
          by_cases z : (k == .free && env.scope.names.lookup (Str.ofString y) == some .cell) = true
          · rw [if_pos z] at h2; cases h2
          · rwa [if_neg z] at h2
        exact ((K0.locs _ (lookup_mem h1) hkl).2.elim (fun q => hyx (str_ofString_inj q)) fun q => hv.1 (str_ofString_inj q)).elim
      · have hfree := free_of _ hc
        have hcell : env.kindOf (Str.ofString y) = some .cell := K0.free _ hfree rfl
        obtain ⟨m, hn, hv'⟩ := eo.vars
        obtain ⟨v, rv, q⟩ := hv' y Z hy ⟨hv.1, .inr hcell⟩
        refine ⟨v, rv.ext (Ext.keeps μ kp), .inr ⟨hc, ?_⟩⟩
        rcases q with ⟨q, _⟩ | ⟨_, c, o, h3, h4, h5⟩
        · rw [hcell] at q; cases q
        · obtain ⟨c', hc'⟩ := Option.isSome_iff_exists.mp (closN_has env.cells (l := sc.names) (acc := []) (.inl hfree))
          have e := (hcl _ _ (lookup_mem hc')).1
          rw [h3] at e; cases e
          exact ⟨c, o, hc', kp c o h4, h5⟩
end
end Mine
end
noncomputable section
open PySem PySem.W PyProof.Rows
set_option maxRecDepth 100000
namespace Mine
section
variable {prog : Program} {w : World} {base : Heap} {caddr : Cls → Addr} {K : Frag} {mg mb : Str → Option Value}
variable {A : Around} {μ μ' μ₁ μ₂ : Mu} {s s' : Shared} {h h' hh h₃ : Heap} {H H' H₁ H₂ : Hp} {env : PySem.Env} {ρ ρ' ρ₂ : Env} {n : Nat} {Cp : CallP} {X Y Y' Z : Nat → Prop}
inductive Same (s s' : Shared) : Prop
  | mk (h : Heap) (tk : Nat) (e : s' = { s with heap := h, toks := tk })
theorem Same.to (S : Same s s') (h : Heap) (tk : Nat) : Same s { s' with heap := h, toks := tk } := by cases S with | mk h' tk' e => subst e; exact .mk h tk rfl
theorem Same.trans {s₂ : Shared} (S : Same s s') (T : Same s' s₂) : Same s s₂ := by cases T with | mk h tk e => subst e; exact S.to h tk
theorem Over.same (l : Over prog w base caddr μ s μ' s') (C : Core prog w base caddr μ' H s'.heap) : Same s s' := by
  cases l (γ := Unit) (δ := Unit) (fun _ _ _ _ => True) (fun _ _ => True) () s' (.mk s'.heap s'.toks μ' () H rfl C (Ext.refl _ _) trivial trivial) with
  | mk h tk _ _ _ e _ _ _ _ => exact .mk h tk e
theorem wpAny_noE {α : Type} {t : Sem α} {P : α → Shared → Prop} {E : Value → Shared → Prop} (h : wpAny (model prog w) A t P (fun _ _ => False) s) : wpAny (model prog w) A t P E s := wpAny_mono h (fun _ _ z => z) fun _ _ x => x.elim
theorem turnK (k : ∀ b o, h.get? b = some o → ¬ X b → h'.get? b = some o) : KeepB X μ h μ h' := ⟨fun _ _ _ e => e, fun _ _ _ e => .inl e, fun b o e _ nx => k b o e nx⟩
theorem EnvOk.keepB (eo : EnvOk base env μ h ρ) (k : ∀ b o, h.get? b = some o → ¬ X b → h'.get? b = some o) (nt : NT X h) (ne : ∀ b, envX env b → ¬ X b) : EnvOk base env μ h' ρ := by
  refine ⟨eo.kind, eo.glob, eo.blt, eo.off, eo.sep, eo.inj, fun y c hy => ?_, eo.cell, ?_⟩
  · obtain ⟨o, v, h1, h2⟩ := eo.cells y c hy
    exact ⟨o, v, k c o h1 (ne c (.inr ⟨y, hy⟩)), h2⟩
  · obtain ⟨m, ⟨o, es, ep, ho, r⟩, hv⟩ := eo.vars
    refine ⟨m, ⟨o, es, ep, k _ o ho (ne _ (.inl rfl)), r⟩, fun y Z hy hk => ?_⟩
    obtain ⟨v, rv, q⟩ := hv y Z hy hk
    exact ⟨v, VRel.keepB (turnK k) nt rv, q.imp id fun ⟨hk, c, o, h1, h2, h3⟩ => ⟨hk, c, o, h1, k c o h2 (ne c (.inr ⟨_, lookup_mem h1⟩)), h3⟩⟩
theorem ExtB.skip (x : ExtB X μ h μ' h') {h'' : Heap} (k : ∀ b o, h'.get? b = some o → ¬ Y b → h''.get? b = some o) (n : ∀ b, Y b → h.get? b = none) : ExtB X μ h μ' h'' := by
  have ny : ∀ b o, h.get? b = some o → ¬ Y b := fun b o e y => by rw [n b y] at e; cases e
  refine ⟨⟨x.mu, x.fresh, fun b o e m z => k b o (x.keep b o e m z) (ny b o e)⟩, fun b o z e m => ?_⟩
  obtain ⟨o', e'⟩ := x.live b o z e m
  exact ⟨o', k b o' e' (ny b o e)⟩
structure Lp (prog : Program) (w : World) (base : Heap) (caddr : Cls → Addr) (env : PySem.Env) (Y Z : Nat → Prop) (μ : Mu) (h : Heap) (ρ : Env) (μ' : Mu) (H' : Hp) (hh : Heap) : Prop where
  C : Core prog w base caddr μ' H' hh
  X : ExtB Z μ h μ' hh
  eo : EnvOk base env μ' hh ρ
  off : ∀ b, Y b → ∀ i t, μ' i t ≠ some b
noncomputable abbrev New (base : Heap) (Y : Nat → Prop) (h : Heap) : Prop := ∀ b, Y b → h.get? b = none ∧ base.get? b = none
theorem Lp.but (L : Lp prog w base caddr env Y Z μ h ρ μ' H' hh) (nw : New base Y h) (sub : ∀ b, Y' b → Y b) (nt : NT Y' hh) (k : ∀ b o, hh.get? b = some o → ¬ Y' b → h₃.get? b = some o) : Core prog w base caddr μ' H' h₃ :=
  L.C.but k nt fun b o hb _ => ⟨(nw b (sub b hb)).2, L.off b (sub b hb)⟩
theorem Lp.skip (L : Lp prog w base caddr env Y Z μ h ρ μ' H' hh) (nw : New base Y h) (sub : ∀ b, Y' b → Y b) (k : ∀ b o, hh.get? b = some o → ¬ Y' b → h₃.get? b = some o) : ExtB Z μ h μ' h₃ := L.X.skip k fun b y => (nw b (sub b y)).1
theorem Lp.turn (L : Lp prog w base caddr env Y Z μ h ρ μ' H' hh) (nw : New base Y h) (sub : ∀ b, Y' b → Y b) (ne : ∀ b, envX env b → ¬ Y' b) (nt : NT Y' hh) (k : ∀ b o, hh.get? b = some o → ¬ Y' b → h₃.get? b = some o) : Lp prog w base caddr env Y Z μ h ρ μ' H' h₃ :=
  ⟨L.but nw sub nt k, L.skip nw sub k, L.eo.keepB k nt ne, L.off⟩
theorem Lp.run (L : Lp prog w base caddr env Y Z μ h ρ μ' H' hh) (x : ExtB Z μ' hh μ₂ h₃) (C : Core prog w base caddr μ₂ H₂ h₃) (eo : EnvOk base env μ₂ h₃ ρ₂) (live : ∀ b, Y b → ∃ o, hh.get? b = some o) : Lp prog w base caddr env Y Z μ h ρ₂ μ₂ H₂ h₃ :=
  ⟨C, L.X.trans x, eo, fun b y => by obtain ⟨o, e⟩ := live b y; exact x.toKeepB.off e (L.off b y)⟩
theorem Walker.nt {I : Nat} {items : List V} {keep : Option Id} {St : Nat → Heap → Prop} {j : Nat} (W : Walker prog w base caddr A I μ H items keep St) (st : St j h) : NT (fun b => b = I) h := fun b o hb ho _ its n e => by
  obtain ⟨oI, hoI, nt⟩ := W.live j h st
  subst hb; rw [hoI] at ho; cases ho; exact nt its n e
theorem Walker.get {I : Nat} {items : List V} {keep : Option Id} {St : Nat → Heap → Prop} {j : Nat} (W : Walker prog w base caddr A I μ H items keep St) (st : St j h) : ∃ o, h.get? I = some o := by
  obtain ⟨o, e, _⟩ := W.live j h st; exact ⟨o, e⟩
theorem Ext.none_of (E : Ext μ h μ₁ h') {b : Nat} (n : h'.get? b = none) (off : ∀ i t, μ₁ i t ≠ some b) : h.get? b = none := by
  cases e : h.get? b with
  | none => rfl
  | some o => rw [E.keep b o e fun i t q => off i t (E.mu _ _ _ q)] at n; cases n
theorem turn_lt {k len j : Nat} (hk : k = len - j) (h : j < len) : len - (j + 1) < k := hk ▸ Nat.sub_lt_sub_left h (Nat.lt_succ_self j)
noncomputable abbrev cY (I D Ca : Nat) (b : Nat) : Prop := b = I ∨ b = D ∨ b = Ca
inductive CJ (prog : Program) (w : World) (base : Heap) (caddr : Cls → Addr) (cenv : PySem.Env) (I D Ca : Nat) (μ : Mu) (s : Shared) (ρ₀ : Env) (μ₁ : Mu) (St : Nat → Heap → Prop) (Inv : Nat → List V → Hp → Prop) (len : Nat) (k : Nat) (s' : Shared) : Prop
  | mk (μ' : Mu) (H' : Hp) (j : Nat) (acc : List V) (its : Array Value) (same : Same s s') (L : Lp prog w base caddr cenv (cY I D Ca) (fun _ => False) μ s.heap ρ₀ μ' H' s'.heap) (mu : ∀ i t a, μ₁ i t = some a → μ' i t = some a)
      (st : St j s'.heap) (pl : s'.heap.PlainList D its) (ra : VRels μ' s'.heap acc its.toList) (inv : Inv j acc H') (hj : j ≤ len) (hk : k = len - j)
theorem plain_get {D : Nat} {its : Array Value} (p : h.PlainList D its) : ∃ o, h.get? D = some o := by obtain ⟨n, e⟩ := p; exact ⟨_, e⟩
theorem plain_at {D : Nat} {its : Array Value} (p : h.PlainList D its) (k : ∀ o, h.get? D = some o → h'.get? D = some o) : h'.PlainList D its := by obtain ⟨n, e⟩ := p; exact ⟨n, k _ e⟩
theorem comp_loop {elt : LE} {conds : List LE} {x : String} (ihE : PE prog w base caddr mg elt) (ihC : PEs prog w base caddr mg conds) {et iter : Expr} {ifs : List Expr} {sc : Scope} {pos px : Pos} {Q : V → Hp → Prop} {cenv : PySem.Env} {I D Ca : Nat} {items : List V} {keep : Option Id} {St : Nat → Heap → Prop} {Inv : Nat → List V → Hp → Prop} {s₄ : Shared}
    (hC : CallOk prog w base caddr mg n Cp) (hX : CtxA n A) (m2 : mE cenv.scope.names elt et = true) (m3 : mEs cenv.scope.names conds ifs = true) (hcl : cenv.locals = Ca) (hcx : cenv.kindOf (Str.ofString x) = some .local)
    (neI : ∀ b, envX cenv b → b ≠ I) (neD : ∀ b, envX cenv b → b ≠ D) (hID : I ≠ D) (hIC : I ≠ Ca) (hDC : D ≠ Ca) (lD : cStatics < D) (nw : New base (cY I D Ca) s.heap)
    (W : Walker prog w base caddr A I μ₁ H₁ items keep St) (hlen : items.length ≤ LIM)
    (istay : ∀ j acc H', Inv j acc H' → staysO H₁ H' keep ∧ acc.length ≤ j)
    (iturn : ∀ j acc H' it, items[j]? = some it → Inv j acc H' → wpCs Cp conds (ρ.upd x it) (fun ok H₁ => if ok then wpE Cp elt (ρ.upd x it) (fun u H₂ => Inv (j + 1) (acc ++ [u]) H₂) H₁ else Inv (j + 1) acc H₁) H')
    (idone : ∀ acc H', Inv items.length acc H' → newO (.list acc) Q H') {use : Option (Value → Sem Unit)} {P : Value → Shared → Prop}
    (hR : ∀ h' tk μ' b H', Core prog w base caddr μ' H' h' → Ext μ s.heap μ' h' → VRel μ' h' b (.ref D) → Q b H' → (∃ m, h'.Ns Ca m) → (∀ i t, μ' i t ≠ some Ca) → compPost (model prog w) A (fun _ _ => False) use P (.ref D) Ca (.ok .next) { s with heap := h', toks := tk })
    (j0 : CJ prog w base caddr cenv I D Ca μ s (fun y => if y = x then none else ρ y) μ₁ St Inv items.length items.length s₄) :
    codeAny (model prog w) A (.compLoop (.ListComp et [⟨.Name (Str.ofString x) px, iter, ifs, 0⟩] sc pos) 0 (.ref I) (.ref D) cenv) (compPost (model prog w) A (fun _ _ => False) use P (.ref D) Ca) s₄ := by
  have hρ : ∀ Z : V, Env.upd (fun y => if y = x then none else ρ y) x Z = ρ.upd x Z := fun Z => funext fun y => by
    unfold Env.upd; by_cases hy : y = x
    · rw [if_pos hy, if_pos hy]
    · rw [if_neg hy, if_neg hy]; exact if_neg hy
  have dropX : ∀ {μ6 : Mu} {h6 : Heap} {Z : V}, EnvOk base cenv μ6 h6 (ρ.upd x Z) → EnvOk base cenv μ6 h6 (fun y => if y = x then none else ρ y) := fun e => e.mono fun y Y _ hy => by
    by_cases hyx : y = x
    · rw [if_pos hyx] at hy; cases hy
    · rw [if_neg hyx] at hy; unfold Env.upd; rw [if_neg hyx]; exact hy
  refine codeAny_compLoop_tests _ (fun kk s' z => ?_) items.length j0
  cases z with
  | mk μ' H' j acc its same L mu st pl ra inv hj hk =>
  obtain ⟨stay, accl⟩ := istay j acc H' inv
  have nt := W.nt st
  by_cases hlt : j < items.length
  · have hZ : items[j]? = some items[j] := List.getElem?_eq_getElem hlt
    refine W.item j items[j] μ' H' s' _ _ hZ L.C mu stay (L.off I (.inl rfl)) st fun v h3 tk3 rv st3 k3 => ?_
    have L3 := L.turn nw (fun b hb => .inl hb) neI nt k3
    refine wpAny_assign_Name (st_local (s := { s' with heap := h3, toks := tk3 }) L3.C L3.eo (VRel.keepB (turnK k3) nt rv) hcx fun h4 tk4 C4 hs4 l4 eo4 B4 nt4 => ?_)
    rw [hcl] at hs4 B4 nt4
    rw [hρ] at eo4
    have k4 : ∀ b o, h3.get? b = some o → b ≠ Ca → h4.get? b = some o := fun b o e nb => (hs4.2 b nb).trans e
    have L4 : Lp prog w base caddr cenv (cY I D Ca) (fun _ => False) μ s.heap (ρ.upd x items[j]) μ' H' h4 := ⟨C4, L3.skip nw (fun b hb => .inr (.inr hb)) k4, eo4, L.off⟩
    have st4 : St (j + 1) h4 := W.frame _ _ _ st3 fun o e => k4 I o e hIC
    have pl4 : h4.PlainList D its := plain_at pl fun o e => k4 D o (k3 D o e (Ne.symm hID)) hDC
    have ra4 : VRels μ' h4 acc its.toList := (VRels.keepB (turnK k3) nt ra).extB B4 nt4
    have live : ∀ {μ h ρ j}, St j h → h.PlainList D its → EnvOk base cenv μ h ρ → ∀ b, cY I D Ca b → ∃ o, h.get? b = some o := fun st pl eo b hb => by
      rcases hb with rfl | rfl | rfl
      · exact W.get st
      · exact plain_get pl
      · exact hcl ▸ eo.alive (.inl rfl)
    have X4 : Sit prog w base caddr mg cenv (ρ.upd x items[j]) A n Cp μ' { s' with heap := h4, toks := tk4 } H' := ⟨hC, hX, C4, eo4⟩
    refine wpAny_noE (X4.nest (ihC.cs (pos := pos) X4 m3 (iturn j acc H' items[j] hZ inv)) fun ok s5 μ5 b5 H5 X5 E5 r5 q5 l5 => ?_)
    obtain rfl : b5 = ok := r5
    have L5 := L4.run E5.toB X5.core X5.env (live st4 pl4 eo4)
    have st5 : St (j + 1) s5.heap := W.frame _ _ _ st4 fun o e => E5.keep I o e (L.off I (.inl rfl))
    have pl5 : s5.heap.PlainList D its := plain_at pl4 fun o e => E5.keep D o e (L.off D (.inr (.inl rfl)))
    have same5 := (same.to h4 tk4).trans (l5.same X5.core)
    cases b5 with
    | false => exact ⟨items.length - (j + 1), turn_lt hk hlt, .mk μ5 H5 (j + 1) acc its same5 ⟨L5.C, L5.X, dropX L5.eo, L5.off⟩ (fun i t a e => E5.mu _ _ _ (mu i t a e)) st5 pl5 (ra4.ext E5) q5 hlt rfl⟩
    | true =>
      refine wpAny_noE (X5.nest (ihE.ev X5 m2 q5) fun y s6 μ6 u H6 X6 E6 r6 q6 l6 => ?_)
      have L6 := L5.run E6.toB X6.core X6.env (live st5 pl5 L5.eo)
      have st6 : St (j + 1) s6.heap := W.frame _ _ _ st5 fun o e => E6.keep I o e (L5.off I (.inl rfl))
      have pl6 : s6.heap.PlainList D its := plain_at pl5 fun o e => E6.keep D o e (L5.off D (.inr (.inl rfl)))
      have ra6 := (ra4.ext E5).ext E6
      refine wpAny_list_append_plain (hsz := by rw [IsL_size ra6]; exact Nat.le_trans (Nat.le_trans accl (Nat.le_trans hj hlen)) LIM_lt) pl6 fun h7 pl7 hs7 => ?_
      have ntD : NT (fun b => b = D) s6.heap := fun b o hb ho hc => by
        obtain ⟨nn, e⟩ := pl6; subst hb; rw [e] at ho; cases ho; exact fun _ _ _ => absurd (Value.type.inj hc) (by decide)
      have k7 : ∀ b o, s6.heap.get? b = some o → b ≠ D → h7.get? b = some o := fun b o e nb => (hs7.2 b nb).trans e
      have L7 := L6.turn nw (fun b hb => .inr (.inl hb)) neD ntD k7
      refine ⟨items.length - (j + 1), turn_lt hk hlt, .mk μ6 H6 (j + 1) (acc ++ [u]) (its.push y) (same5.trans ((l6.same X6.core).to h7 s6.toks)) ⟨L7.C, L7.X, dropX L7.eo, L7.off⟩ (fun i t a e => E6.mu _ _ _ (E5.mu _ _ _ (mu i t a e)))
        (W.frame _ _ _ st6 fun o e => k7 I o e hID) pl7 ?_ q6 hlt rfl⟩
      rw [Array.toList_push]
      exact VRels.keepB (turnK k7) ntD (ra6.append (VRels.cons r6 VRels.nil))
  · obtain rfl : j = items.length := Nat.le_antisymm hj (Nat.not_lt.mp hlt)
    refine W.done μ' H' s' _ _ L.C mu stay (L.off I (.inl rfl)) st fun h3 tk3 k3 => ?_
    obtain ⟨i, hi, q⟩ := idone acc H' inv
    have L3 := L.turn nw (fun b hb => .inl hb) neI nt k3
    obtain ⟨nn, pl3⟩ := plain_at pl fun o e => k3 D o e (Ne.symm hID)
    have hc : ({ cls := .type "list", data := .seq its nn } : Obj).cls ≠ .type "tuple" := fun e => absurd (Value.type.inj e) (by decide)
    have mu3 : ∀ j t b, μ' j t = some b → (μ'.set i false D) j t = some b := fun j t b => mu_adopt (L.C.dom i hi)
    have Cf := L3.C.adopt hi (L.off D (.inr (.inl rfl))) (nw D (.inr (.inl rfl))).2 lD pl3 hc (o' := .list acc)
      (.list (Mu.set_self _ _ _ _) pl3 (VRels.gen mu3 (adopt_tup pl3 hc) (VRels.keepB (turnK k3) nt ra)) (Nat.le_trans accl hlen))
    have ns3 : ∃ m, h3.Ns Ca m := by obtain ⟨m, hn, _⟩ := L3.eo.vars; exact ⟨m, hcl ▸ hn⟩
    have offC : ∀ j t, (μ'.set i false D) j t ≠ some Ca := fun j t e => Mu.set_el e (fun _ _ z => hDC z.symm) (L.off Ca (.inr (.inr rfl)) j t)
    have Ef : Ext μ s.heap (μ'.set i false D) h3 := ⟨fun j t a e => mu3 _ _ _ (L3.X.mu _ _ _ e), fun j t a e => Mu.set_el e (fun _ _ z => by rw [z]; exact .inr ⟨(nw D (.inr (.inl rfl))).1, fun j' u' z => L.off D (.inr (.inl rfl)) _ _ (L3.X.mu _ _ _ z)⟩) (L3.X.fresh j t a), fun b o e nb => L3.X.keep b o e nb id⟩
    cases same with
    | mk h tk e => subst e; exact hR h3 tk3 _ (.obj i) _ Cf Ef (VRel.o (Mu.set_self _ _ _ _)) q ns3 offC
theorem comp_core (S : Stat K base mg mb caddr) (G : StatG K mg) {elt src : LE} {conds : List LE} {x : String} {k : SrcK} (ihE : PE prog w base caddr mg elt) (ihS : PE prog w base caddr mg src) (ihC : PEs prog w base caddr mg conds)
    {et iter : Expr} {ifs : List Expr} {sc : Scope} {pos ppos px : Pos} {Q : V → Hp → Prop} (X : Sit prog w base caddr mg env ρ A n Cp μ s H) (hsc : compOk env.scope.names sc x = true) (hke : k ≠ .enum) (hkr : k ≠ .range)
    (hu : uSrc env.scope.names (mE env.scope.names src) k iter = true) (m2 : mE (relabN env.scope.names sc.names) elt et = true) (m3 : mEs (relabN env.scope.names sc.names) conds ifs = true) (q : wpE Cp (.comp elt x k src conds) ρ Q H) {use : Option (Value → Sem Unit)} {P : Value → Shared → Prop}
    (hR : ∀ Ca v h' tk μ' b H', Core prog w base caddr μ' H' h' → Ext μ s.heap μ' h' → VRel μ' h' b v → Q b H' → (∃ m, h'.Ns Ca m) → (∀ i t, μ' i t ≠ some Ca) → base.get? Ca = none → s.heap.get? Ca = none →
      compPost (model prog w) A (fun _ _ => False) use P v Ca (.ok .next) { s with heap := h', toks := tk }) :
    wpAny (model prog w) A (comprehension (.ListComp et [⟨.Name (Str.ofString x) px, iter, ifs, 0⟩] sc pos) sc env ppos (newList []) false (eval iter env) use) P (fun _ _ => False) s := by
  have K0 := compOk_of hsc
  have hf : ∀ p ∈ sc.names, p.2 = .free → ∃ c, env.cells.lookup p.1 = some c := fun p hp e => X.env.cell p.1 (K0.free p hp e)
  have hfold : okI iter.ctorIdx = true := by
    cases k with
    | plain => exact mE_ok hu
    | values => exact uM0_ok hu
    | _ => exact uC1_ok hu
  refine wpAny_comprehension_free rfl (folded_plain hfold) (closureFor_at hf) K0.kind (fun p hp e => (K0.locs p hp e).1) ?_
  refine iter_src S G ihS X hu hke q fun it s₂ μ₁ H₁ s₁ items keep X₁ E₁ hI hlen q l => ?_
  obtain ⟨Inv, i0, istay, iturn, idone⟩ := q
  cases hI with
  | mk I St h2 tk2 e e' nI C2 E2 offI bI W st0 =>
  subst e e'
  have same := l.same X₁.core
  refine wpAny_newObj_type (wpAny_newFunctionEnv K0.cell (fun y hy => nomatch hy) (fun h₁ hns₁ hsb₁ => ?_) K0.kind)
  have E12 : Ext μ s.heap μ₁ h2 := E₁.trans E2
  have old : ∀ b o, h2.get? b = some o → h₁.get? b = some o := fun b o e => hsb₁.extBut b o (Nat.ne_of_lt (by rw [Heap.size_push]; exact Nat.lt_succ_of_lt (Heap.lt_size e))) (Heap.get?_push_of_some _ (Heap.get?_push_of_some _ e))
  have hacc : h₁.get? h2.objs.size = some { cls := .type "list", dict := none, data := .seq ([] : List Value).toArray } := hsb₁.extBut _ _ (Nat.ne_of_lt (by rw [Heap.size_push]; exact Nat.lt_succ_self _)) (Heap.get?_push_of_some _ (Heap.get?_push_size _ rfl))
  have hC2 : h2.get? (h2.push { cls := .type "list", dict := none, data := .seq ([] : List Value).toArray }).objs.size = none := get?_above (by rw [Heap.size_push]; exact Nat.le_succ _)
  have hDC : h2.objs.size ≠ (h2.push { cls := .type "list", dict := none, data := .seq ([] : List Value).toArray }).objs.size := Nat.ne_of_lt (by rw [Heap.size_push]; exact Nat.lt_succ_self _)
  have hns : h₁.Ns (h2.push { cls := .type "list", dict := none, data := .seq ([] : List Value).toArray }).objs.size (fun _ => none) := hns₁
  clear hns₁ hsb₁
  dsimp only
  revert hns hDC hC2
  generalize (h2.push { cls := .type "list", dict := none, data := .seq ([] : List Value).toArray }).objs.size = Ca
  revert hacc
  have hD2 : h2.get? h2.objs.size = none := get?_size _
  have lD : cStatics < h2.objs.size := C2.new_low (Nat.le_refl _)
  revert hD2 lD
  generalize h2.objs.size = D
  intro hD2 lD hacc hC2 hDC hns
  have gI := W.get st0
  have hID : I ≠ D := fun e => by obtain ⟨o, ho⟩ := gI; rw [e, hD2] at ho; cases ho
  have hIC : I ≠ Ca := fun e => by obtain ⟨o, ho⟩ := gI; rw [e, hC2] at ho; cases ho
  have eo2 := X.env.ext E12
  have offC := C2.ne_new hC2
  have offD := C2.ne_new hD2
  have ec := EnvOk.comp K0 eo2 (C2.new_base hC2) offC (fun b hb e => by obtain ⟨o, ho⟩ := eo2.alive hb; rw [e, hC2] at ho; cases ho) old hns
  have st1 : St 0 h₁ := W.frame _ _ _ st0 fun o e => old _ o e
  have s0 : New base (cY I D Ca) s.heap := fun b hb => by
    rcases hb with rfl | rfl | rfl
    · exact ⟨E₁.none_of nI offI, bI⟩
    · exact ⟨E12.none_of hD2 offD, C2.new_base hD2⟩
    · exact ⟨E12.none_of hC2 offC, C2.new_base hC2⟩
  obtain ⟨cenv, hcenv⟩ : ∃ cenv, cenv = compEnvC sc (closN env.cells sc.names []) Ca env := ⟨_, rfl⟩
  have hcl : cenv.locals = Ca := by rw [hcenv]; rfl
  have hcn : cenv.scope.names = relabN env.scope.names sc.names := by
    rw [hcenv]
    unfold compEnvC relabel relabN
    refine List.map_congr_left fun p _ => ?_
    obtain ⟨n, k⟩ := p
    show (if (k == NameKind.free && (env.scope.kind == .function) && env.kindOf n == some NameKind.cell) = true then (n, NameKind.cell) else (n, k)) = _
    rw [X.env.kind, beq_self_eq_true, Bool.and_true]
    rfl
  have hcx : cenv.kindOf (Str.ofString x) = some .local := by
    show cenv.scope.names.lookup _ = _
    rw [hcn, lookup_relab, K0.loc]; rfl
  have ne : ∀ {D : Nat}, (∀ b, envX env b → b ≠ D) → D ≠ Ca → ∀ b, envX cenv b → b ≠ D := fun k hd b hb => by
    rcases hb with rfl | ⟨y, hy⟩
    · rw [hcl]; exact Ne.symm hd
    · rw [hcenv] at hy
      exact ((closN_mem hf (show (y, b) ∈ closN env.cells sc.names [] from hy)).elim (fun z => nomatch z) fun z => k b (.inr ⟨y, lookup_mem z.1⟩))
  have loop := comp_loop (prog := prog) (w := w) (caddr := caddr) (iter := iter) (sc := sc) (pos := pos) (px := px) (s := s) (s₄ := { s₁ with heap := h₁, toks := tk2 + ([] : List (Str × Value)).length }) ihE ihC X.call X.ctx (hcn ▸ m2) (hcn ▸ m3) hcl hcx
    (ne (fun b hb e => by obtain ⟨o, ho⟩ := X₁.env.alive hb; rw [e, nI] at ho; cases ho) hIC) (ne (fun b hb e => by obtain ⟨o, ho⟩ := eo2.alive hb; rw [e, hD2] at ho; cases ho) hDC) hID hIC hDC lD s0 W (hlen hkr) istay iturn idone
    (fun h' tk μ' b H' C E r q ns off => hR Ca (.ref D) h' tk μ' b H' C E r q ns off (s0 Ca (.inr (.inr rfl))).2 (s0 Ca (.inr (.inr rfl))).1)
    (.mk μ₁ H₁ 0 [] #[] (same.to _ _) ⟨C2.keeps old, (E12.trans (Ext.keeps μ₁ old)).toB, hcenv ▸ ec, fun b hb => by
      rcases hb with rfl | rfl | rfl
      · exact offI
      · exact offD
      · exact offC⟩ (fun _ _ _ e => e) st1 ⟨0, hacc⟩ VRels.nil i0 (Nat.zero_le _) rfl)
  subst hcenv
  exact codeAny_compStart_list loop (W.self 0 _ _ _ st1 loop)
@[elab_as_elim] theorem comp_el {N : Names} {elt src : LE} {x : String} {k : SrcK} {conds : List LE} {e : Expr} {P : Expr → Prop} (m : mE N (.comp elt x k src conds) e = true)
    (q : ∀ et iter ifs sc p px, compOk N sc x = true → k ≠ .enum → k ≠ .range → uSrc N (mE N src) k iter = true → mE (relabN N sc.names) elt et = true → mEs (relabN N sc.names) conds ifs = true → P (.ListComp et [⟨.Name (Str.ofString x) px, iter, ifs, 0⟩] sc p)) : P e :=
  an m fun h1 m => (Expr.ListComp.elim (motive_1 := fun e => (compOk N (nd e).sc x && (k != .enum && (k != .range &&
      gen1 x (fun iter ifs => uSrc N (mE N src) k iter && (one (mE (relabN N (nd e).sc.names) elt) (nd e).es && mEs (relabN N (nd e).sc.names) conds ifs)) (nd e).g))) = true → P e) e (eq_of_beq h1) fun et g sc p m =>
    an m fun h1 m => an m fun h2 m => an m fun h3 m => gen1_el (g := g) m fun px iter ifs m => an m fun h4 m => an m fun h5 h6 => q et iter ifs sc p px h1 (bne_iff_ne.mp h2) (bne_iff_ne.mp h3) h4 h5 h6) m
theorem PE.comp (S : Stat K base mg mb caddr) (G : StatG K mg) {elt src : LE} {conds : List LE} (x : String) (k : SrcK) (ihE : PE prog w base caddr mg elt) (ihS : PE prog w base caddr mg src) (ihC : PEs prog w base caddr mg conds) :
    PE prog w base caddr mg (.comp elt x k src conds) :=
  .of_ev (fun N e m => plain_of m rfl) fun X m q => comp_el m fun et iter ifs sc p px hsc hke hkr hu m2 m3 => by
    rw [eval_ListComp]
    refine comp_core S G ihE ihS ihC X hsc hke hkr hu m2 m3 q (use := Option.none) fun Ca v h' tk μ' b H' C' E' r q hn off bC sC => ?_
    obtain ⟨mm, hn⟩ := hn
    refine ⟨mm, hn, fun h'' hs => ?_⟩
    have nt : NT (fun b => b = Ca) h' := fun b o hb ho _ its n e => by
      obtain ⟨o', es, ep, ho', hd, _⟩ := hn; subst hb; rw [ho'] at ho; cases ho; rw [hd] at e; cases e
    have k : ∀ b o, h'.get? b = some o → ¬ b = Ca → h''.get? b = some o := fun b o e nb => (hs.2 b nb).trans e
    refine .mk h'' tk μ' b H' rfl (C'.but (X := fun b => b = Ca) k nt fun b o hb _ => by rw [hb]; exact ⟨bC, off⟩) ⟨E'.mu, E'.fresh, fun b o e nb => k b o (E'.keep b o e nb) fun z => ?_⟩ (VRel.keepB (turnK k) nt r) q
    rw [z, sC] at e; cases e
end
end Mine
end
noncomputable section
open PySem PySem.W PyProof.Rows
set_option maxRecDepth 100000
namespace Mine
noncomputable def tupIs (f : List Expr → Bool) (e : Expr) : Bool := e.ctorIdx == 25 && f (nd e).es
noncomputable def at0 (x : Str) (f : Expr → Bool) (e : Expr) : Bool := e.ctorIdx == 20 && ((nd e).s == x && one f (nd e).es)
noncomputable def sb (f : Expr → Expr → Bool) (e : Expr) : Bool := e.ctorIdx == 21 && two f (nd e).es
section
variable {e : Expr} {P : Expr → Prop}
@[elab_as_elim] theorem tupIs_el {f : List Expr → Bool} (h : tupIs f e = true) (q : ∀ xs n p, f xs = true → P (.Tuple xs n p)) : P e :=
  an h fun h1 h => (Expr.Tuple.elim (motive_1 := fun e => f (nd e).es = true → P e) e (eq_of_beq h1) fun xs n p h => q xs n p h) h
@[elab_as_elim] theorem at0_el {x : Str} {f : Expr → Bool} (h : at0 x f e = true) (q : ∀ v p, f v = true → P (.Attribute v x p)) : P e :=
  an h fun h1 h => (Expr.Attribute.elim (motive_1 := fun e => ((nd e).s == x && one f (nd e).es) = true → P e) e (eq_of_beq h1) fun v s p h => an h fun h2 h => eq_of_beq (show (s == x) = true from h2) ▸ q v p h) h
@[elab_as_elim] theorem sb_el {f : Expr → Expr → Bool} (h : sb f e = true) (q : ∀ v j p, f v j = true → P (.Subscript v j p)) : P e := sub_el (e := e) (f := f) (show (e.ctorIdx == 21 && two f (nd e).es) = true from h) q
end
noncomputable def mNames (N : Names) : List String → List Expr → Bool
  | [] => fun ts => ts.isEmpty
  | x :: xs => un fun t r => nmIs (isV N) x t && mNames N xs r
noncomputable def mAttrs (N : Names) (x : String) : List String → List Expr → Bool
  | [] => fun ts => ts.isEmpty
  | a :: as => un fun t r => allAttrs.contains a && (at0 (Str.ofString a) (nmIs (isV N) x) t && mAttrs N x as r)
noncomputable def noSwap (ts : List Expr) (v : Expr) : Bool := v.ctorIdx != 25 || !(ts.length == 2 || ts.length == 3)
noncomputable def isStar (e : Expr) : Bool := e.ctorIdx == 22
noncomputable def nmL (N : Names) (e : Expr) : Bool := e.ctorIdx == 23 && N.lookup (nd e).s == some .local
noncomputable def swap3 (N : Names) (ts : List Expr) (v : Expr) : Bool := three (fun x y z => nmL N x && (nmL N y && (nmL N z && ((nd y).p.line == (nd x).p.line && ((nd z).p.line == (nd x).p.line && ((nd x).s != (nd y).s && ((nd x).s != (nd z).s && (nd y).s != (nd z).s))))))) ts &&
  tupIs (fun vs => vs.length == 3 && (!(vs.any isStar) && (!vs.all (foldedForSure 8) && !vs.all (constantsAlone 8)))) v
structure Sd where
  ts : List Expr := []
  v : Option Expr := none
  a : List Stmt := []
  b : List Stmt := []
  op : Operator := .Add
noncomputable def sd : Stmt → Sd
  | .Assign ts v _ => { ts := ts, v := some v }
  | .AugAssign t o v _ => { ts := [t], v := some v, op := o }
  | .Expr v _ => { v := some v }
  | .Return v _ => { v := v }
  | .If x a b _ => { v := some x, a := a, b := b }
  | .While x a b _ => { v := some x, a := a, b := b }
  | .For t x a b _ => { ts := [t], v := some x, a := a, b := b }
  | .Delete ts _ => { ts := ts }
  | _ => {}
noncomputable def asg (f : Expr → Expr → Bool) (st : Stmt) : Bool := st.ctorIdx == 5 && one (fun t => opt (f t) (sd st).v) (sd st).ts
noncomputable def aug (o : Operator) (f : Expr → Expr → Bool) (st : Stmt) : Bool := st.ctorIdx == 7 && ((sd st).op == o && one (fun t => opt (f t) (sd st).v) (sd st).ts)
section
variable {st : Stmt} {P : Stmt → Prop}
@[elab_as_elim] theorem asg_el {f : Expr → Expr → Bool} (h : asg f st = true) (q : ∀ t v p, f t v = true → P (.Assign [t] v p)) : P st :=
  an h fun h1 h => (Stmt.Assign.elim (motive_2 := fun st => one (fun t => opt (f t) (sd st).v) (sd st).ts = true → P st) st (eq_of_beq h1) fun ts v p h => one_el (xs := ts) h fun t h => q t v p h) h
@[elab_as_elim] theorem aug_el {o : Operator} {f : Expr → Expr → Bool} (h : aug o f st = true) (q : ∀ t v p, f t v = true → P (.AugAssign t o v p)) : P st :=
  an h fun h1 h => (Stmt.AugAssign.elim (motive_2 := fun st => ((sd st).op == o && one (fun t => opt (f t) (sd st).v) (sd st).ts) = true → P st) st (eq_of_beq h1) fun t o' v p h => an h fun h2 h => eq_of_beq (show (o' == o) = true from h2) ▸ q t v p h) h
@[elab_as_elim] theorem exs_el {f : Expr → Bool} (h : (st.ctorIdx == 24 && opt f (sd st).v) = true) (q : ∀ v p, f v = true → P (.Expr v p)) : P st :=
  an h fun h1 h => (Stmt.Expr.elim (motive_2 := fun st => opt f (sd st).v = true → P st) st (eq_of_beq h1) fun v p h => q v p h) h
@[elab_as_elim] theorem ret_el {f : Expr → Bool} (h : (st.ctorIdx == 3 && opt f (sd st).v) = true) (q : ∀ v p, f v = true → P (.Return (some v) p)) : P st :=
  an h fun h1 h => (Stmt.Return.elim (motive_2 := fun st => opt f (sd st).v = true → P st) st (eq_of_beq h1) fun v p h => opt_el (o := v) h fun v h => q v p h) h
@[elab_as_elim] theorem ifs_el {f : Expr → Bool} {g k : List Stmt → Bool} (h : (st.ctorIdx == 12 && (opt f (sd st).v && (g (sd st).a && k (sd st).b))) = true) (q : ∀ v a b p, f v = true → g a = true → k b = true → P (.If v a b p)) : P st :=
  an h fun h1 h => (Stmt.If.elim (motive_2 := fun st => (opt f (sd st).v && (g (sd st).a && k (sd st).b)) = true → P st) st (eq_of_beq h1) fun v a b p h => an h fun h2 h => an h fun h3 h4 => q v a b p h2 h3 h4) h
@[elab_as_elim] theorem whl_el {f : Expr → Bool} {g : List Stmt → Bool} (h : (st.ctorIdx == 11 && (opt f (sd st).v && (g (sd st).a && (sd st).b.isEmpty))) = true) (q : ∀ v a p, f v = true → g a = true → P (.While v a [] p)) : P st :=
  an h fun h1 h => (Stmt.While.elim (motive_2 := fun st => (opt f (sd st).v && (g (sd st).a && (sd st).b.isEmpty)) = true → P st) st (eq_of_beq h1) fun v a b p h => an h fun h2 h => an h fun h3 h4 => List.isEmpty_iff.mp (show b.isEmpty = true from h4) ▸ q v a p h2 h3) h
@[elab_as_elim] theorem for_el {f k : Expr → Bool} {g : List Stmt → Bool} (h : (st.ctorIdx == 9 && (one k (sd st).ts && (opt f (sd st).v && (g (sd st).a && (sd st).b.isEmpty)))) = true) (q : ∀ t v a p, k t = true → f v = true → g a = true → P (.For t v a [] p)) : P st :=
  an h fun h1 h => (Stmt.For.elim (motive_2 := fun st => (one k (sd st).ts && (opt f (sd st).v && (g (sd st).a && (sd st).b.isEmpty))) = true → P st) st (eq_of_beq h1) fun t v a b p h => an h fun h0 h => an h fun h2 h => an h fun h3 h4 => List.isEmpty_iff.mp (show b.isEmpty = true from h4) ▸ q t v a p h0 h2 h3) h
@[elab_as_elim] theorem del_el {f : Expr → Bool} (h : (st.ctorIdx == 4 && one f (sd st).ts) = true) (q : ∀ t p, f t = true → P (.Delete [t] p)) : P st :=
  an h fun h1 h => (Stmt.Delete.elim (motive_2 := fun st => one f (sd st).ts = true → P st) st (eq_of_beq h1) fun ts p h => one_el (xs := ts) h fun t h => q t p h) h
end
noncomputable def forT (N : Names) (xs : List String) (k : SrcK) (t : Expr) : Bool := bif k == .enum then xs.length == 2 && tupIs (mNames N xs) t else mNames N xs [t]
mutual
noncomputable def mS (N : Names) : LS → Stmt → Bool
  | .assign x e => asg fun t v => nmIs (isV N) x t && ((v.ctorIdx != 8 || e.ctorIdx == 22) && mE N e v)
  | .assignTup xs e => asg fun t v => tupIs (fun ts => mNames N xs ts && (noSwap ts v || swap3 N ts v)) t && mE N e v
  | .assignAttr o a e => asg fun t v => allAttrs.contains a && (at0 (Str.ofString a) (mE N o) t && mE N e v)
  | .assignAttrs x as e => asg fun t v => tupIs (mAttrs N x as) t && mE N e v
  | .assignIdx o i e => asg fun t v => sb (fun l j => mE N o l && mE N i j) t && mE N e v
  | .augAttr o a op e => aug (binOf op) fun t v => (op == .add || op == .sub) && (allAttrs.contains a && (at0 (Str.ofString a) (mE N o) t && mE N e v))
  | .augIdx o i op e => aug (binOf op) fun t v => (op == .add || op == .sub) && (sb (fun l j => mE N o l && mE N i j) t && mE N e v)
  | .expr e => fun st => st.ctorIdx == 24 && opt (fun v => v.ctorIdx != 8 && mE N e v) (sd st).v
  | .ret e => fun st => st.ctorIdx == 3 && opt (mE N e) (sd st).v
  | .ifs c t f => fun st => st.ctorIdx == 12 && (opt (mE N c) (sd st).v && (mSs N t (sd st).a && mSs N f (sd st).b))
  | .while c b => fun st => st.ctorIdx == 11 && (opt (mE N c) (sd st).v && (mSs N b (sd st).a && (sd st).b.isEmpty))
  | .for xs k src b => fun st => st.ctorIdx == 9 && (one (forT N xs k) (sd st).ts && (opt (uSrc N (mE N src) k) (sd st).v && (mSs N b (sd st).a && (sd st).b.isEmpty)))
  | .delIdx o i => fun st => st.ctorIdx == 4 && one (sb fun l j => mE N o l && mE N i j) (sd st).ts
  | .pass => fun st => st.ctorIdx == 25
  | .fail => fun _ => true
noncomputable def mSs (N : Names) : List LS → List Stmt → Bool
  | [] => fun ts => ts.isEmpty
  | l :: ls => un fun t r => mS N l t && mSs N ls r
end
section
variable {prog : Program} {w : World} {base : Heap} {caddr : Cls → Addr} {K : Frag} {mg mb : Str → Option Value}
mutual
theorem pe (S : Stat K base mg mb caddr) (G : StatG K mg) : ∀ l : LE, PE prog w base caddr mg l
  | .var x => .var x
  | .none => .none
  | .bool b => .bool b
  | .int i => .int i
  | .str s => .str s
  | .attr e x => .attr S x (pe S G e)
  | .idx e i => .idx (pe S G e) (pe S G i)
  | .sliceTo e i => .sliceTo (pe S G e) (pe S G i)
  | .sliceFrom e i => .sliceFrom (pe S G e) (pe S G i)
  | .tup es => .tup (pes S G es)
  | .list es => .list (pes S G es)
  | .dict0 => .dict0
  | .call f es => .call S G f (pes S G es)
  | .meth e m es => .meth S m (pe S G e) (pes S G es)
  | .blt b e => .blt S G b (pe S G e)
  | .cmp op a b => .cmp S op (pe S G a) (pe S G b)
  | .band es => .band (pes S G es)
  | .bor es => .bor (pes S G es)
  | .not e => .not (pe S G e)
  | .ite c a b => .ite (pe S G c) (pe S G a) (pe S G b)
  | .bin op a b => .bin op (pe S G a) (pe S G b)
  | .neg e => .neg (pe S G e)
  | .comp elt x k src conds => .comp S G x k (pe S G elt) (pe S G src) (pes S G conds)
theorem pes (S : Stat K base mg mb caddr) (G : StatG K mg) : ∀ ls : List LE, PEs prog w base caddr mg ls
  | [] => .nil
  | l :: ls => .cons (pe S G l) (pes S G ls)
end
variable {A : Around} {μ μ' : Mu} {s s₂ : Shared} {h h' : Heap} {H : Hp} {env : PySem.Env} {ρ : Env} {n : Nat} {Cp : CallP} {v : Expr}
noncomputable def FlP (Q : PostS) (fl : Flow) (μ' : Mu) (h' : Heap) (ρ' : Env) (H' : Hp) : Prop := (fl = .next ∧ Q .next ρ' H') ∨ ∃ Z v, fl = .ret v ∧ VRel μ' h' Z v ∧ Q (.ret Z) ρ' H'
noncomputable abbrev EndF (prog : Program) (w : World) (base : Heap) (caddr : Cls → Addr) (env : PySem.Env) (μ : Mu) (s : Shared) (Q : PostS) (fl : Flow) (s' : Shared) : Prop := EndS prog w base caddr env μ s (FlP Q fl) s'
theorem EndS.of {P : Mu → Heap → Env → Hp → Prop} {h₁ : Heap} {tk₁ : Nat} (E : ExtB (envX env) μ s.heap μ' h₁) (z : EndS prog w base caddr env μ' { s with heap := h₁, toks := tk₁ } P s₂) : EndS prog w base caddr env μ s P s₂ :=
  z.el fun h' tk μ₂ ρ' H' c x eo p => .mk h' tk μ₂ ρ' H' rfl c (E.trans x) eo p
theorem Sit.ends {P : Mu → Heap → Env → Hp → Prop} {h₁ : Heap} {tk₁ : Nat} (X : Sit prog w base caddr mg env ρ A n Cp μ' { s with heap := h₁, toks := tk₁ } H) (E : Ext μ s.heap μ' h₁) (p : P μ' h₁ ρ H) : EndS prog w base caddr env μ s P { s with heap := h₁, toks := tk₁ } :=
  .mk h₁ tk₁ μ' ρ H rfl X.core E.toB X.env p
structure PS (prog : Program) (w : World) (base : Heap) (caddr : Cls → Addr) (mg : Str → Option Value) (st : LS) : Prop where
  run : ∀ {t : Stmt} {env : PySem.Env} {ρ : Env} {A : Around} {n : Nat} {C : CallP} {μ : Mu} {s : Shared} {H : Hp} {Q : PostS}, Sit prog w base caddr mg env ρ A n C μ s H →
    mS env.scope.names st t = true → wpS C st ρ Q H → wpAny (model prog w) A (exec t env) (EndF prog w base caddr env μ s Q) (fun _ _ => False) s
structure PSs (prog : Program) (w : World) (base : Heap) (caddr : Cls → Addr) (mg : Str → Option Value) (ls : List LS) : Prop where
  run : ∀ {ts : List Stmt} {env : PySem.Env} {ρ : Env} {A : Around} {n : Nat} {C : CallP} {μ : Mu} {s : Shared} {H : Hp} {Q : PostS}, Sit prog w base caddr mg env ρ A n C μ s H →
    mSs env.scope.names ls ts = true → wpSs C ls ρ Q H → wpAny (model prog w) A (execs ts env) (EndF prog w base caddr env μ s Q) (fun _ _ => False) s
theorem PSs.nil : PSs prog w base caddr mg [] := ⟨fun {ts env ρ A n C μ s H Q} X m q => by
  obtain rfl := List.isEmpty_iff.mp m
  exact wpAny_execs_nil (.mk s.heap s.toks μ ρ H rfl X.core ExtB.refl X.env (.inl ⟨rfl, q⟩))⟩
theorem PSs.cons {l : LS} {ls : List LS} (ih : PS prog w base caddr mg l) (ihs : PSs prog w base caddr mg ls) : PSs prog w base caddr mg (l :: ls) := ⟨fun {ts env ρ A n C μ s H Q} X m q => un_el m fun t r m => an m fun m1 m2 =>
  wpAny_execs_cons (wpAny_mono (ih.run X m1 q) (fun fl s₁ z => z.el fun h' tk μ' ρ' H' C' Z eo' p => by
    rcases p with ⟨rfl, p⟩ | ⟨u, v, rfl, r, p⟩
    · exact wpAny_mono (ihs.run (s := { s with heap := h', toks := tk }) ⟨X.call, X.ctx, C', eo'⟩ m2 p) (fun fl s₂ z => EndS.of Z z) fun _ _ x => x
    · exact .mk h' tk μ' ρ' H' rfl C' Z eo' (.inr ⟨u, v, rfl, r, p⟩)) fun _ _ x => x)⟩
theorem swaps_plain {t : Option Expr} {line : Nat} (ok : okI v.ctorIdx = true) (h8 : v.ctorIdx ≠ 8) : swapsWith v t line env = pure false := by
  cases v <;> first | rfl | exact Bool.noConfusion ok | exact absurd rfl h8
theorem swaps_other {t : Expr} {line : Nat} (ok : okI v.ctorIdx = true) (ht : t.ctorIdx ≠ 23) : swapsWith v (some t) line env = pure false := by
  by_cases h8 : v.ctorIdx = 8
  · exact Expr.ListComp.elim (motive_1 := fun v => swapsWith v (some t) line env = pure false) v h8 fun a b c d => by cases t <;> first | rfl | exact absurd rfl ht
  · exact swaps_plain ok h8
theorem exec_Assign_used (x pos' value pos) (hs : swapsWith value (some (.Name x pos')) pos.line env = pure true) : exec (.Assign [.Name x pos'] value pos) env = (do
    standAt pos
    evalThenUse value env (assign (.Name x pos') env)
    return .next) := PySem.exec_Assign_Name_used x pos' value pos hs
theorem st_end {E : Value → Shared → Prop} (X : Sit prog w base caddr mg env ρ A n Cp μ s H) {x : String} {Z : V} {v : Value} {Q : PostS} (rv : VRel μ s.heap Z v) (hk : isVar env x) (q : Q .next (ρ.upd x Z) H) :
    wpAny (model prog w) A (storeName env (Str.ofString x) v) (fun _ s' => EndF prog w base caddr env μ s Q .next s') E s :=
  st_var X.core X.env rv hk fun _ => .inl ⟨rfl, q⟩
theorem assign_used (S : Stat K base mg mb caddr) (G : StatG K mg) {x y : String} {elt src : LE} {k : SrcK} {conds : List LE} {p pos : Pos} {Q : PostS} (X : Sit prog w base caddr mg env ρ A n Cp μ s H) (hl : env.kindOf (Str.ofString x) = some .local)
    (m : mE env.scope.names (.comp elt y k src conds) v = true) (q : wpS Cp (.assign x (.comp elt y k src conds)) ρ Q H) (hs : swapsWith v (some (.Name (Str.ofString x) p)) pos.line env = pure true) :
    wpAny (model prog w) A (exec (.Assign [.Name (Str.ofString x) p] v pos) env) (EndF prog w base caddr env μ s Q) (fun _ _ => False) s := by
  rw [exec_Assign_used _ _ _ _ hs]
  refine wpAny_bind (wpAny_standAt (wpAny_bind ?_))
  clear hs
  refine comp_el m fun et iter ifs sc cpos px hsc hke hkr hu m2 m3 => ?_
  show wpAny _ A (do let _ ← comprehension (.ListComp et [⟨.Name (Str.ofString y) px, iter, ifs, 0⟩] sc cpos) sc env (firstIterPos [⟨.Name (Str.ofString y) px, iter, ifs, 0⟩] cpos) (newList []) false (eval iter env) (some (PySem.assign (.Name (Str.ofString x) p) env))) _ _ s
  refine wpAny_bind (comp_core S G (pe S G elt) (pe S G src) (pes S G conds) X hsc hke hkr hu m2 m3 q fun Ca v h' tk μ' b H' C' E' r q hn off bC sC => ?_)
  obtain ⟨mm, hn⟩ := hn
  have hCL : Ca ≠ env.locals := fun e => by
    obtain ⟨o, ho⟩ := X.env.alive (.inl rfl)
    rw [← e, sC] at ho; cases ho
  show wpAny _ A (PySem.assign (.Name (Str.ofString x) p) env v) _ _ _
  refine wpAny_assign_Name (st_local (s := { s with heap := h', toks := tk }) C' (X.env.ext E') r hl fun h2 tk2 C2 hs2 l2 eo2 B2 nt2 => ?_)
  have hn2 := hn.sameBut hs2 hCL
  refine ⟨mm, hn2, fun h'' hs => wpAny_pure (wpAny_pure ?_)⟩
  have nt : NT (fun b => b = Ca) h2 := fun b o hb ho _ its n e => by
    obtain ⟨o', es, ep, ho', hd, _⟩ := hn2; subst hb; rw [ho'] at ho; cases ho; rw [hd] at e; cases e
  have k : ∀ b o, h2.get? b = some o → ¬ b = Ca → h''.get? b = some o := fun b o e nb => (hs.2 b nb).trans e
  refine .mk h'' tk2 μ' (ρ.upd x b) H' rfl (C2.but (X := fun b => b = Ca) k nt fun b o hb _ => by rw [hb]; exact ⟨bC, off⟩)
    (((E'.toB (X := envX env)).trans (B2.weaken fun b hb => .inl hb)).skip (Y := fun b => b = Ca) k fun b hb => hb ▸ sC) (eo2.keepB k nt fun b hb e => ?_) (.inl ⟨rfl, q⟩)
  obtain ⟨o, ho⟩ := X.env.alive hb
  rw [e, sC] at ho; cases ho
theorem assign_plain (S : Stat K base mg mb caddr) (G : StatG K mg) {x : String} {e : LE} {p pos : Pos} {Q : PostS} (X : Sit prog w base caddr mg env ρ A n Cp μ s H) (hv : isV env.scope.names x = true) (m : mE env.scope.names e v = true) (q : wpS Cp (.assign x e) ρ Q H)
    (hs : swapsWith v (some (.Name (Str.ofString x) p)) pos.line env = pure false) : wpAny (model prog w) A (exec (.Assign [.Name (Str.ofString x) p] v pos) env) (EndF prog w base caddr env μ s Q) (fun _ _ => False) s :=
  wpAny_Assign_Name (X.nestS ((pe S G e).ev X m q) fun a h' tk μ' b H' X' E' r q => wpAny_mono (st_end X' r (isV_of hv) q) (fun _ s₂ z => EndS.of E'.toB z) fun _ _ x => x) hs
theorem PS.assign (S : Stat K base mg mb caddr) (G : StatG K mg) (x : String) (e : LE) : PS prog w base caddr mg (.assign x e) := ⟨fun {t env ρ A n C μ s H Q} X m q => asg_el m fun t v pos m => an m fun m1 m => an m fun mc m => nmIs_el m1 fun p hv _ => by
  by_cases h8 : v.ctorIdx = 8
  · have h22 : e.ctorIdx = 22 := (Bool.or_eq_true_iff.mp mc).elim (fun z => absurd h8 (bne_iff_ne.mp z)) eq_of_beq
    refine LE.comp.elim (motive_1 := fun e => mE env.scope.names e v = true → wpS C (.assign x e) ρ Q H → wpAny (model prog w) A (exec (.Assign [.Name (Str.ofString x) p] v pos) env) (EndF prog w base caddr env μ s Q) (fun _ _ => False) s) e h22 (fun elt y k src conds m q => ?_) m q
    obtain ⟨b, hb, hl⟩ : ∃ b, swapsWith v (some (.Name (Str.ofString x) p)) pos.line env = pure b ∧ (b = true → env.kindOf (Str.ofString x) = some .local) :=
      Expr.ListComp.elim (motive_1 := fun v => ∃ b, swapsWith v (some (.Name (Str.ofString x) p)) pos.line env = pure b ∧ (b = true → env.kindOf (Str.ofString x) = some .local)) v h8 fun a b c d => ⟨_, rfl, fun h => an h fun h _ => an h fun h _ => an h fun _ h => eq_of_beq h⟩
    cases b with
    | false => exact assign_plain S G X hv m q hb
    | true => exact assign_used S G X (hl rfl) m q hb
  · exact assign_plain S G X hv m q (swaps_plain (mE_ok m) h8)⟩
end
end Mine
end
noncomputable section
open PySem PySem.W PyProof.Rows
set_option maxRecDepth 100000
namespace Mine
section
variable {prog : Program} {w : World} {base : Heap} {caddr : Cls → Addr} {K : Frag} {mg mb : Str → Option Value}
variable {A : Around} {μ μ' : Mu} {s : Shared} {h h' : Heap} {H : Hp} {env : PySem.Env} {ρ : Env} {n : Nat}
theorem swaps_at {l : LE} {v t : Expr} {line : Nat} (m : mE env.scope.names l v = true) (h : Nat.beq t.ctorIdx 23 = false) : swapsWith v (some t) line env = pure false :=
  swaps_other (mE_ok m) (Nat.ne_of_beq_eq_false h)
theorem PS.assignAttr (S : Stat K base mg mb caddr) (G : StatG K mg) (o : LE) (a : String) (e : LE) : PS prog w base caddr mg (.assignAttr o a e) := ⟨fun {t env ρ A n C μ s H Q} X m q => asg_el m fun t v p m => an m fun ha m => an m fun m1 m2 => at0_el m1 fun l p' m1 => by
  refine plainObj_wpAny_Assign_Attribute (X.nestS ((pe S G e).ev X m2 q) fun v h1 tk1 μ1 Z H1 X1 E1 r1 q1 => ?_) (swaps_at m2 rfl)
  refine X1.nestS ((pe S G o).ev X1 m1 q1) fun ov h2 tk2 μ2 U H2 X2 E2 r2 q2 => ?_
  obtain ⟨H', hp, q2⟩ := q2
  exact X2.nestS (wp_setAttr (Q := fun _ H => Q .next ρ H) S X2.core r2 (r1.ext E2) hp (List.contains_iff_mem.mp ha) q2) fun _ h3 tk3 μ3 _ H3 X3 E3 _ q3 => X3.ends (s := s) (E1.trans (E2.trans E3)) (.inl ⟨rfl, q3⟩)⟩
theorem PS.assignIdx (S : Stat K base mg mb caddr) (G : StatG K mg) (o i e : LE) : PS prog w base caddr mg (.assignIdx o i e) := ⟨fun {t env ρ A n C μ s H Q} X m q => asg_el m fun t v p m => an m fun m1 m3 => sb_el m1 fun l j p' m => an m fun m1 m2 => by
  refine wpAny_Assign_Subscript (X.nestS ((pe S G e).ev X m3 q) fun v h1 tk1 μ1 Z H1 X1 E1 r1 q1 => ?_) (swaps_at m3 rfl)
  refine X1.nestS ((pe S G o).ev X1 m1 q1) fun ov h2 tk2 μ2 U H2 X2 E2 r2 q2 => ?_
  refine X2.nestS ((pe S G i).ev X2 m2 q2) fun iv h3 tk3 μ3 I H3 X3 E3 r3 q3 => ?_
  obtain ⟨H', hp, q3⟩ := q3
  exact X3.nestS (wp_setItem (Q := fun _ H => Q .next ρ H) X3.core (r2.ext E3) r3 (r1.ext (E2.trans E3)) hp q3) fun _ h4 tk4 μ4 _ H4 X4 E4 _ q4 => X4.ends (s := s) (E1.trans (E2.trans (E3.trans E4))) (.inl ⟨rfl, q4⟩)⟩
theorem op_of {op : BOp} (h : (op == .add || op == .sub) = true) : op = .add ∨ op = .sub := (Bool.or_eq_true_iff.mp h).imp eq_of_beq eq_of_beq
theorem PS.augAttr (S : Stat K base mg mb caddr) (G : StatG K mg) (o : LE) (a : String) (op : BOp) (e : LE) : PS prog w base caddr mg (.augAttr o a op e) := ⟨fun {t env ρ A n C μ s H Q} X m q => aug_el m fun t v p m => an m fun ho m => an m fun ha m => an m fun m1 m2 => at0_el m1 fun l p' m1 => by
  have ha := List.contains_iff_mem.mp ha
  refine wpAny_AugAssign_AttributeAny (X.nestS ((pe S G o).ev X m1 q) fun ov h1 tk1 μ1 U H1 X1 E1 r1 q1 => ?_)
  obtain ⟨old, hold, q1⟩ := q1
  refine X1.nestS (wp_getAttr (Q := fun u H => u = .int old ∧ H = H1) S X1.core r1 hold ha ⟨rfl, rfl⟩) fun ov' h2 tk2 μ2 u H2 X2 E2 r2 q2 => ?_
  obtain ⟨rfl, rfl⟩ := q2
  refine X2.nestS ((pe S G e).ev X2 m2 q1) fun v h3 tk3 μ3 Z H3 X3 E3 r3 q3 => ?_
  refine X3.nestS (wp_ibin X3.core (r2.ext E3) r3 (op_of ho) (fun i e => nomatch e) q3) fun nv h4 tk4 μ4 R H4 X4 E4 r4 q4 => ?_
  obtain ⟨H', hp, q4⟩ := q4
  exact X4.nestS (wp_setAttr (Q := fun _ H => Q .next ρ H) S X4.core (r1.ext (E2.trans (E3.trans E4))) r4 hp ha q4) fun _ h5 tk5 μ5 _ H5 X5 E5 _ q5 => X5.ends (s := s) (E1.trans (E2.trans (E3.trans (E4.trans E5)))) (.inl ⟨rfl, q5⟩)⟩
theorem PS.augIdx (S : Stat K base mg mb caddr) (G : StatG K mg) (o i : LE) (op : BOp) (e : LE) : PS prog w base caddr mg (.augIdx o i op e) := ⟨fun {t env ρ A n C μ s H Q} X m q => aug_el m fun t v p m => an m fun ho m => an m fun m1 m3 => sb_el m1 fun l j p' m => an m fun m1 m2 => by
  refine wpAny_AugAssign_SubscriptAny (X.nestS ((pe S G o).ev X m1 q) fun ov h1 tk1 μ1 U H1 X1 E1 r1 q1 => ?_) (by
    have ok := mE_ok m2
    intro ov iv new
    cases j <;> first | rfl | exact Bool.noConfusion ok)
  refine X1.nestS ((pe S G i).ev X1 m2 q1) fun iv h2 tk2 μ2 I H2 X2 E2 r2 q2 => ?_
  obtain ⟨old, hold, q2⟩ := q2
  refine X2.nestS (wp_getItem (Q := fun u H => u = .int old ∧ H = H2) X2.core (r1.ext E2) r2 hold ⟨rfl, rfl⟩) fun ov' h3 tk3 μ3 u H3 X3 E3 r3 q3 => ?_
  obtain ⟨rfl, rfl⟩ := q3
  refine X3.nestS ((pe S G e).ev X3 m3 q2) fun v h4 tk4 μ4 Z H4 X4 E4 r4 q4 => ?_
  refine X4.nestS (wp_ibin X4.core (r3.ext E4) r4 (op_of ho) (fun i e => nomatch e) q4) fun nv h5 tk5 μ5 R H5 X5 E5 r5 q5 => ?_
  obtain ⟨H', hp, q5⟩ := q5
  exact X5.nestS (wp_setItem (Q := fun _ H => Q .next ρ H) X5.core (r1.ext (E2.trans (E3.trans (E4.trans E5)))) (r2.ext (E3.trans (E4.trans E5))) r5 hp q5) fun _ h6 tk6 μ6 _ H6 X6 E6 _ q6 => X6.ends (s := s) (E1.trans (E2.trans (E3.trans (E4.trans (E5.trans E6))))) (.inl ⟨rfl, q6⟩)⟩
theorem interactive_no (eo : EnvOk base env μ h ρ) : interactive env = false := by
  unfold interactive
  rw [eo.kind]; rfl
theorem PS.expr (S : Stat K base mg mb caddr) (G : StatG K mg) (e : LE) : PS prog w base caddr mg (.expr e) := ⟨fun {t env ρ A n C μ s H Q} X m q => exs_el (show (t.ctorIdx == 24 && opt (fun v => v.ctorIdx != 8 && mE env.scope.names e v) (sd t).v) = true from m) fun v p m => an m fun h8 m =>
  wpAny_Expr_any (X.nestS ((pe S G e).ev X m q) fun v h1 tk1 μ1 Z H1 X1 E1 r1 q1 => X1.ends (s := s) E1 (.inl ⟨rfl, q1⟩)) (interactive_no X.env) (swaps_plain (mE_ok m) (bne_iff_ne.mp h8))⟩
theorem PS.ret (S : Stat K base mg mb caddr) (G : StatG K mg) (e : LE) : PS prog w base caddr mg (.ret e) := ⟨fun {t env ρ A n C μ s H Q} X m q => ret_el (show (t.ctorIdx == 3 && opt (mE env.scope.names e) (sd t).v) = true from m) fun v p m =>
  wpAny_Return_some (X.nestS ((pe S G e).ev X m q) fun v h1 tk1 μ1 Z H1 X1 E1 r1 q1 => X1.ends (s := s) E1 (.inr ⟨Z, v, rfl, r1, q1⟩))⟩
theorem PS.ifs (S : Stat K base mg mb caddr) (G : StatG K mg) (c : LE) {a b : List LS} (iha : PSs prog w base caddr mg a) (ihb : PSs prog w base caddr mg b) : PS prog w base caddr mg (.ifs c a b) := ⟨fun {t env ρ A n C μ s H Q} X m q => ifs_el (st := t) (f := mE env.scope.names c) (g := mSs env.scope.names a) (k := mSs env.scope.names b) m fun v ta tb p m1 m2 m3 =>
  wpAny_If (X.nestS ((pe S G c).tr X m1 q) fun t h1 tk1 μ1 b1 H1 X1 E1 r1 q1 => by
    obtain rfl : b1 = t := r1
    cases b1 with
    | false => exact wpAny_mono (ihb.run X1 m3 q1) (fun fl s₂ z => EndS.of E1.toB z) fun _ _ x => x
    | true => exact wpAny_mono (iha.run X1 m2 q1) (fun fl s₂ z => EndS.of E1.toB z) fun _ _ x => x)⟩
theorem PS.while (S : Stat K base mg mb caddr) (G : StatG K mg) (c : LE) {b : List LS} (ih : PSs prog w base caddr mg b) : PS prog w base caddr mg (.while c b) := ⟨fun {t env ρ A n C μ s H Q} X m q => whl_el (st := t) (f := mE env.scope.names c) (g := mSs env.scope.names b) m fun v ta p m1 m2 => by
  obtain ⟨I, ⟨k0, i0⟩, step⟩ := q
  refine wpAny_While (codeAny_whileLoop (fun k => EndS prog w base caddr env μ s fun _ _ ρ' H' => I k ρ' H') ?_ k0 (.mk s.heap s.toks μ ρ H rfl X.core ExtB.refl X.env i0))
  intro k s' z
  refine z.el fun hh tk μ' ρ' H' C' Z' eo' inv => ?_
  have X' : Sit prog w base caddr mg env ρ' A n C μ' { s with heap := hh, toks := tk } H' := ⟨X.call, X.ctx, C', eo'⟩
  refine wpAny_noE (X'.nestS ((pe S G c).tr X' m1 (step k ρ' H' inv)) fun t h1 tk1 μ1 b1 H1 X1 E1 r1 q1 => ?_)
  obtain rfl : b1 = t := r1
  have Z1 := Z'.trans E1.toB
  cases b1 with
  | false => exact wpAny_execs_nil (.mk h1 tk1 μ1 ρ' H1 rfl X1.core Z1 X1.env (.inl ⟨rfl, q1⟩))
  | true =>
    refine wpAny_noE (wpAny_mono (ih.run X1 m2 q1) (fun fl s₂ z => ?_) fun _ _ x => x)
    refine z.el fun h2 tk2 μ2 ρ2 H2 C2 Z2 eo2 p => ?_
    rcases p with ⟨rfl, m, hm, im⟩ | ⟨u, v, rfl, r, p⟩
    · exact ⟨m, hm, .mk h2 tk2 μ2 ρ2 H2 rfl C2 (Z1.trans Z2) eo2 im⟩
    · exact .mk h2 tk2 μ2 ρ2 H2 rfl C2 (Z1.trans Z2) eo2 (.inr ⟨u, v, rfl, r, p⟩)⟩
theorem PS.delIdx (S : Stat K base mg mb caddr) (G : StatG K mg) (o i : LE) : PS prog w base caddr mg (.delIdx o i) := ⟨fun {t env ρ A n C μ s H Q} X m q => del_el m fun t pos m => sb_el m fun l j p m => an m fun m1 m2 => by
  refine wpAny_Delete (wpAny_deleteEach_cons ?_)
  show wpAny _ A (do
    let ov ← eval l env
    let iv ← holding [ov] (eval j env)
    standAt p
    holding [ov, iv] (delItem ov iv)
    release [ov, iv] []) _ _ s
  refine wpAny_bind (X.nestS ((pe S G o).ev X m1 q) fun ov h1 tk1 μ1 U H1 X1 E1 r1 q1 => wpAny_bind (wpAny_holding (X1.nestS ((pe S G i).ev X1 m2 q1) fun iv h2 tk2 μ2 I H2 X2 E2 r2 q2 => ?_)))
  obtain ⟨H', hp, q2⟩ := q2
  exact wpAny_bind (wpAny_standAt (wpAny_bind (wpAny_holding (X2.nestS (wp_delItem (Q := fun _ H => Q .next ρ H) X2.core (r1.ext E2) r2 hp q2) fun _ h3 tk3 μ3 _ H3 X3 E3 _ q3 =>
    wpAny_release (wpAny_deleteEach_nil (X3.ends (s := s) (E1.trans (E2.trans E3)) (.inl ⟨rfl, q3⟩)))))))⟩
theorem PS.pass : PS prog w base caddr mg .pass := ⟨fun {t env ρ A n C μ s H Q} X m q => Stmt.Pass.elim (motive_2 := fun t => wpAny (model prog w) A (exec t env) (EndF prog w base caddr env μ s Q) (fun _ _ => False) s) t (eq_of_beq m) fun p =>
  wpAny_Pass (.mk s.heap s.toks μ ρ H rfl X.core ExtB.refl X.env (.inl ⟨rfl, q⟩))⟩
theorem PS.fail : PS prog w base caddr mg .fail := ⟨fun X m q => q.elim⟩
theorem mNames_len {N : Names} {xs : List String} {ts : List Expr} (m : mNames N xs ts = true) : ts.length = xs.length := by
  induction xs generalizing ts with
  | nil => obtain rfl := List.isEmpty_iff.mp m; rfl
  | cons x xs ih => exact un_el m fun t r m => an m fun _ m => congrArg (· + 1) (ih m)
noncomputable def EachOk (env : PySem.Env) (ts : List Expr) : Prop := (assignEach ts env).length = ts.length ∧ (assignEach ts env).findIdx? (·.1) = none ∧ (assignEach ts env).map (·.2) = ts.map fun t => PySem.assign t env
theorem EachOk.nil : EachOk env [] := ⟨rfl, rfl, rfl⟩
theorem EachOk.cons {t : Expr} {ts : List Expr} (h : ((t.ctorIdx == 22) || (t.ctorIdx == 24) || (t.ctorIdx == 25)) = false) (i : EachOk env ts) : EachOk env (t :: ts) := by
  have e : assignEach (t :: ts) env = (false, PySem.assign t env) :: assignEach ts env := by cases t <;> first | rfl | exact Bool.noConfusion h
  unfold EachOk
  rw [e, List.findIdx?_cons, i.2.1, List.map_cons, i.2.2]
  exact ⟨congrArg (· + 1) i.1, rfl, rfl⟩
theorem mNames_each {N : Names} {xs : List String} {ts : List Expr} (m : mNames N xs ts = true) : EachOk env ts := by
  induction xs generalizing ts with
  | nil => obtain rfl := List.isEmpty_iff.mp m; exact .nil
  | cons x xs ih => exact un_el m fun t r m => an m fun m1 m2 => .cons (nmIs_el m1 fun _ _ _ => rfl) (ih m2)
inductive StF (prog : Program) (w : World) (env : PySem.Env) : List String → List (Value → Sem Unit) → Prop
  | nil : StF prog w env [] []
  | cons {x : String} {f : Value → Sem Unit} {xs : List String} {fs : List (Value → Sem Unit)} (hv : isVar env x)
      (hf : ∀ {A : Around} {v : Value} {s : Shared} {Q : Unit → Shared → Prop} {E : Value → Shared → Prop}, wpAny (model prog w) A (storeName env (Str.ofString x) v) Q E s → wpAny (model prog w) A (f v) Q E s) (r : StF prog w env xs fs) : StF prog w env (x :: xs) (f :: fs)
theorem mNames_st {xs : List String} {ts : List Expr} (m : mNames env.scope.names xs ts = true) : StF prog w env xs (ts.map fun t => PySem.assign t env) := by
  induction xs generalizing ts with
  | nil => obtain rfl := List.isEmpty_iff.mp m; exact .nil
  | cons x xs ih => exact un_el m fun t r m => an m fun m1 m2 => nmIs_el m1 fun p hv _ => .cons (isV_of hv) (fun h => wpAny_assign_Name h) (ih m2)
theorem names_store {E : Value → Shared → Prop} {xs : List String} {fs : List (Value → Sem Unit)} (F : StF prog w env xs fs) {Vs : List V} {vs : List Value} {ρ' : Env} {P : Unit → Shared → Prop}
    (C : Core prog w base caddr μ H s.heap) (eo : EnvOk base env μ s.heap ρ) (r : VRels μ s.heap Vs vs) (b : bindAll ρ xs Vs = some ρ')
    (q : ∀ h' tk, Core prog w base caddr μ H h' → ExtB (envX env) μ s.heap μ h' → EnvOk base env μ h' ρ' → P () { s with heap := h', toks := tk }) : wpAny (model prog w) A (assignInOrder fs vs) P E s := by
  induction F generalizing Vs vs ρ s with
  | nil => cases Vs with
    | cons _ _ => cases b
    | nil => cases b; exact wpAny_pure (q s.heap s.toks C ExtB.refl eo)
  | @cons x f xs fs hv hf F ih => cases Vs with
    | nil => cases b
    | cons Z Vs =>
      refine r.el fun v vs rv rs => assignInOrder_cons (hf (wpAny_mono (st_var (P := fun μ' h' ρ' H' => ρ' = ρ.upd x Z ∧ H' = H ∧ μ' = μ) C eo rv hv fun h' => ⟨rfl, rfl, rfl⟩) (fun _ s₁ z => z.el fun h1 tk1 μ1 ρ1 H1 C1 X1 eo1 p => ?_) fun _ _ x => x))
      obtain ⟨rfl, rfl, rfl⟩ := p
      exact ih (s := { s with heap := h1, toks := tk1 }) C1 eo1 (rs.extB X1 eo.nt) b fun h' tk C' X' eo' => q h' tk C' (X1.trans X') eo'
@[elab_as_elim] theorem swap3_of {ts : List Expr} {v : Expr} {k : Nat} {p : Pos} (hk : env.scope.kind = .function) (h : swap3 env.scope.names ts v = true) {P : List Expr → Prop}
    (q : ∀ a b c pa pb pc, a ≠ b → a ≠ c → b ≠ c → swappedStores [.Tuple [.Name a pa, .Name b pb, .Name c pc] k p] v env = pure (some [a, b, c]) → P [.Name a pa, .Name b pb, .Name c pc]) : P ts := by
  have nm : ∀ {t : Expr}, nmL env.scope.names t = true → ∃ s p, t = .Name s p ∧ env.kindOf s = some .local := fun {t} h => an h fun h1 h2 => (Expr.Name.elim (motive_1 := fun t => (env.scope.names.lookup (nd t).s == some .local) = true → ∃ s p, t = .Name s p ∧ env.kindOf s = some .local) t (eq_of_beq h1) fun s p h => ⟨s, p, rfl, eq_of_beq h⟩) h2
  refine an h fun h1 h2 => ?_
  refine un_el h1 fun x r h => two_el h fun y z h => an h fun hx h => an h fun hy h => an h fun hz h => ?_
  obtain ⟨a, pa, rfl, k1⟩ := nm hx
  obtain ⟨b, pb, rfl, k2⟩ := nm hy
  obtain ⟨c, pc, rfl, k3⟩ := nm hz
  refine an h fun h6 h => an h fun h7 h => an h fun h8 h => an h fun h9 h10 => ?_
  have e6 : pb.line = pa.line := eq_of_beq h6
  have e7 : pc.line = pa.line := eq_of_beq h7
  have h8 : a ≠ b := bne_iff_ne.mp h8
  have h9 : a ≠ c := bne_iff_ne.mp h9
  have h10 : b ≠ c := bne_iff_ne.mp h10
  refine q a b c pa pb pc h8 h9 h10 ?_
  refine tupIs_el h2 fun vs kk pp h => an h fun h1 h => an h fun h2 h => an h fun h11 h12 => ?_
  unfold swappedStores
  have hbk : env.blockKind = .function := by unfold PySem.Env.blockKind; rw [hk]; rfl
  have hd : ([a, b, c] : List Str).eraseDups.length = 3 := by
    simp [List.eraseDups_cons, Ne.symm h8, Ne.symm h9, Ne.symm h10]
  have hf : ∀ F : Expr → Option Str, F (.Name a pa) = some a → F (.Name b pb) = some b → F (.Name c pc) = some c → List.filterMap F [Expr.Name a pa, Expr.Name b pb, Expr.Name c pc] = [a, b, c] := by
    intro F f1 f2 f3
    rw [List.filterMap_cons_some f1, List.filterMap_cons_some f2, List.filterMap_cons_some f3]; rfl
  have hF : ∀ F : Expr → Bool, (∀ x, F x = isStar x) → vs.any F = false := fun F hF => by rw [funext hF]; exact bnot h2
  have hn : ∀ {s : Str} {l : Nat}, env.kindOf s = some .local → l = pa.line → (if (env.kindOf s == some NameKind.local && l == pa.line) = true then some s else none) = some s := fun e l => if_pos (by rw [e, l, beq_self_eq_true, beq_self_eq_true]; rfl)
  dsimp only
  rw [if_neg (by rw [hbk, eq_of_beq h1]; exact fun h => Bool.noConfusion h), if_neg (by rw [hF _ (fun x => by cases x <;> rfl)]; decide)]
  rw [hf _ (hn k1 rfl) (hn k2 e6) (hn k3 e7)]
  rw [if_neg (by rw [hd]; exact fun h => Bool.noConfusion h)]
  rw [if_neg (by rw [bnot h11]; decide), if_neg (by rw [bnot h12]; decide)]
end
end Mine
end
noncomputable section
open PySem PySem.W PyProof.Rows
set_option maxRecDepth 100000
namespace Mine
section
variable {prog : Program} {w : World} {base : Heap} {caddr : Cls → Addr} {K : Frag} {mg mb : Str → Option Value}
variable {A : Around} {μ μ' : Mu} {s : Shared} {h h' : Heap} {H : Hp} {env : PySem.Env} {ρ : Env} {n : Nat}
theorem noSwap_of {ts : List Expr} {v : Expr} {k : Nat} {p : Pos} (h : noSwap ts v = true) : swappedStores [.Tuple ts k p] v env = pure none := by
  by_cases h25 : v.ctorIdx = 25
  · have hl := (Bool.or_eq_true_iff.mp h).resolve_left fun z => absurd h25 (bne_iff_ne.mp z)
    refine Expr.Tuple.elim (motive_1 := fun v => swappedStores [.Tuple ts k p] v env = pure none) v h25 fun a b c => ?_
    unfold swappedStores
    dsimp only
    rw [hl]; rfl
  · cases v <;> first | rfl | exact absurd rfl h25
theorem extBut_new (h' : Heap) (hx : Heap.ExtBut s.heap.objs.size s.heap h') : ∀ b o, s.heap.get? b = some o → h'.get? b = some o := fun b o e => hx b o (Nat.ne_of_lt (Heap.lt_size e)) e
theorem bindAll_len {xs : List String} : ∀ {ρ₀ : Env} {vs : List V} {ρ' : Env}, bindAll ρ₀ xs vs = some ρ' → vs.length = xs.length := by
  induction xs with
  | nil => intro ρ₀ vs ρ' b; cases vs with
    | nil => rfl
    | cons _ _ => cases b
  | cons x xs ih => intro ρ₀ vs ρ' b; cases vs with
    | nil => cases b
    | cons Z Vs => exact congrArg (· + 1) (ih (show bindAll (ρ₀.upd x Z) xs Vs = some ρ' from b))
theorem mNames_cons {N : Names} {xs : List String} {s : Str} {p : Pos} {ts : List Expr} (m : mNames N xs (.Name s p :: ts) = true) : ∃ x r, xs = x :: r ∧ s = Str.ofString x ∧ isV N x = true ∧ mNames N r ts = true := by
  cases xs with
  | nil => cases m
  | cons x r => exact an m fun m1 m2 => an m1 fun _ m1 => an m1 fun h1 h2 => an h2 fun h2 _ => ⟨x, r, rfl, eq_of_beq h1, h2, m2⟩
theorem upd_comm {ρ : Env} {x y : String} {a b : V} (h : x ≠ y) : (ρ.upd x a).upd y b = (ρ.upd y b).upd x a := funext fun t => by
  unfold Env.upd
  by_cases t1 : t = y
  · rw [if_pos t1, if_neg fun e => h (e.symm.trans t1), if_pos t1]
  · rw [if_neg t1]
    by_cases t2 : t = x
    · rw [if_pos t2, if_pos t2]
    · rw [if_neg t2, if_neg t2, if_neg t1]
theorem tup_swapped (S : Stat K base mg mb caddr) (G : StatG K mg) {e : LE} {a b c : Str} {pa pb pc p pos : Pos} {k : Nat} {v : Expr} {xs : List String} {Cp : CallP} {Q : PostS} (X : Sit prog w base caddr mg env ρ A n Cp μ s H) (hab : a ≠ b) (hac : a ≠ c) (hbc : b ≠ c)
    (hsw : swappedStores [.Tuple [.Name a pa, .Name b pb, .Name c pc] k p] v env = pure (some [a, b, c])) (mn : mNames env.scope.names xs [.Name a pa, .Name b pb, .Name c pc] = true)
    (hs : swapsWithSole [.Tuple [.Name a pa, .Name b pb, .Name c pc] k p] v pos.line env = pure false) (m : mE env.scope.names e v = true) (q : wpS Cp (.assignTup xs e) ρ Q H) :
    wpAny (model prog w) A (exec (.Assign [.Tuple [.Name a pa, .Name b pb, .Name c pc] k p] v pos) env) (EndF prog w base caddr env μ s Q) (fun _ _ => False) s := by
  refine Assign_Tuple_swapped (X.nestS ((pe S G e).ev X m q) fun av h1 tk1 μ1 Z H1 X1 E1 r1 q1 => ?_) hs hsw
  clear hsw hs q
  obtain ⟨vs, ρ', rfl, hb, q1⟩ := q1
  refine r1.tel fun ad items T nt rs => ?_
  obtain ⟨x, r, rfl, rfl, vx, mn⟩ := mNames_cons mn
  obtain ⟨y, r, rfl, rfl, vy, mn⟩ := mNames_cons mn
  obtain ⟨z, r, rfl, rfl, vz, mn⟩ := mNames_cons mn
  obtain rfl : r = [] := List.eq_nil_of_length_eq_zero (mNames_len mn).symm
  have hvl := bindAll_len hb
  match vs, hvl with
  | [x', y', z'], _ =>
    have hsz : items.size = 3 := IsL_size rs
    refine (show _ = _ from congrArg (fun m => unpackItems (.ref ad) m none) hsz.symm) ▸ unpackItems_tuple (s := { s with heap := h1, toks := tk1 }) X.ctx.hh T fun h2 hx => ?_
    have k2 : ∀ b o, h1.get? b = some o → h2.get? b = some o := extBut_new (s := { s with heap := h1, toks := tk1 }) h2 hx
    have hxy : x ≠ y := fun e => hab (by rw [e])
    have hxz : x ≠ z := fun e => hac (by rw [e])
    have hyz : y ≠ z := fun e => hbc (by rw [e])
    have hρ : ρ' = ((ρ.upd z z').upd y y').upd x x' := (Option.some.inj hb).symm.trans (by rw [upd_comm hyz, upd_comm hxz, upd_comm hxy])
    refine names_store (s := { s with heap := h2, toks := tk1 }) (.cons (isV_of vz) (fun h => wpAny_bindName h) (.cons (isV_of vy) (fun h => wpAny_bindName h) (.cons (isV_of vx) (fun h => wpAny_bindName h) .nil))) (Vs := [z', y', x']) (X1.core.keeps k2) (X1.env.ext (Ext.keeps μ1 k2))
      ((rs.ext (Ext.keeps μ1 k2)).reverse) rfl fun h3 tk3 C3 Z3 eo3 => .mk h3 tk3 μ1 _ H1 rfl C3 ((E1.trans (Ext.keeps μ1 k2)).toB.trans Z3) eo3 (.inl ⟨rfl, hρ ▸ q1⟩)
theorem PS.assignTup (S : Stat K base mg mb caddr) (G : StatG K mg) (xs : List String) (e : LE) : PS prog w base caddr mg (.assignTup xs e) := ⟨fun {t env ρ A n C μ s H Q} X m q => asg_el m fun t v pos m => an m fun m1 m => tupIs_el m1 fun ts k p m1 => an m1 fun mn hsw => by
  have hs : swapsWithSole [.Tuple ts k p] v pos.line env = pure false := swaps_at (t := .Tuple ts k p) (line := pos.line) m rfl
  rcases Bool.or_eq_true_iff.mp hsw with hsw | hsw
  · refine Assign_Tuple (X.nestS ((pe S G e).ev X m q) fun a h1 tk1 μ1 Z H1 X1 E1 r1 q1 => ?_) hs (noSwap_of hsw)
    obtain ⟨vs, ρ', rfl, hb, q1⟩ := q1
    refine r1.tel fun ad items T nt rs => ?_
    have ee := mNames_each (env := env) mn
    refine assign_Tuple_tuple (s := { s with heap := h1, toks := tk1 }) X.ctx.hh T (ee.1.trans ((mNames_len mn).trans ((bindAll_len hb).symm.trans (IsL_size rs).symm))) ee.2.1 fun h2 hx => ?_
    rw [ee.2.2]
    have k2 : ∀ b o, h1.get? b = some o → h2.get? b = some o := extBut_new (s := { s with heap := h1, toks := tk1 }) h2 hx
    exact names_store (s := { s with heap := h2, toks := tk1 }) (mNames_st mn) (X1.core.keeps k2) (X1.env.ext (Ext.keeps μ1 k2)) (rs.ext (Ext.keeps μ1 k2)) hb fun h3 tk3 C3 Z3 eo3 => .mk h3 tk3 μ1 ρ' H1 rfl C3 ((E1.trans (Ext.keeps μ1 k2)).toB.trans Z3) eo3 (.inl ⟨rfl, q1⟩)
  · revert mn hs
    exact swap3_of (k := k) (p := p) X.env.kind hsw fun a b c pa pb pc hab hac hbc hw mn hs => tup_swapped S G X hab hac hbc hw mn hs m q⟩
@[elab_as_elim] theorem mAttrs_el {N : Names} {x a : String} {as : List String} {ts : List Expr} {P : List Expr → Prop} (m : mAttrs N x (a :: as) ts = true) (q : ∀ p px r, a ∈ allAttrs → isV N x = true → dbg x = false → mAttrs N x as r = true → P (.Attribute (.Name (Str.ofString x) px) (Str.ofString a) p :: r)) : P ts :=
  un_el m fun t r m => an m fun ha m => an m fun m1 m2 => at0_el m1 fun v p m1 => nmIs_el m1 fun px hv hd => q p px r (List.contains_iff_mem.mp ha) hv hd m2
theorem mAttrs_each {N : Names} {x : String} {as : List String} {ts : List Expr} (m : mAttrs N x as ts = true) : EachOk env ts ∧ ts.length = as.length ∧ ∀ F : Expr → Option Str, (∀ v a p, F (.Attribute v a p) = none) → ts.filterMap F = [] := by
  induction as generalizing ts with
  | nil => obtain rfl := List.isEmpty_iff.mp m; exact ⟨.nil, rfl, fun _ _ => rfl⟩
  | cons a as ih =>
    refine mAttrs_el m fun p px r _ _ _ m => ?_
    obtain ⟨i1, i2, i3⟩ := ih m
    exact ⟨.cons rfl i1, congrArg (· + 1) i2, fun F hF => by rw [List.filterMap_cons_none (hF _ _ _)]; exact i3 F hF⟩
theorem attrs_noSwap {N : Names} {x : String} {as : List String} {ts : List Expr} {v : Expr} {k : Nat} {p : Pos} (m : mAttrs N x as ts = true) : swappedStores [.Tuple ts k p] v env = pure none := by
  obtain ⟨_, hl, hF⟩ := mAttrs_each (env := env) m
  by_cases h25 : v.ctorIdx = 25
  · refine Expr.Tuple.elim (motive_1 := fun v => swappedStores [.Tuple ts k p] v env = pure none) v h25 fun vs k' p' => ?_
    unfold swappedStores
    dsimp only
    split
    · rfl
    · split
      · rfl
      · rename_i h1 h2
        rw [hF _ (fun v a p => rfl)]
        refine if_pos ?_
        cases ts with
        | nil => exact absurd rfl h1
        | cons t r => rfl
  · cases v <;> first | rfl | exact absurd rfl h25
theorem attrs_store (S : Stat K base mg mb caddr) {x : String} {u : V} {Q : PostS} (hx : ρ x = some u) (as : List String) : ∀ {ts : List Expr} {Vs : List V} {vs : List Value} {H H' : Hp} {μ : Mu} {s : Shared},
    Core prog w base caddr μ H s.heap → EnvOk base env μ s.heap ρ → mAttrs env.scope.names x as ts = true → VRels μ s.heap Vs vs → putAttrs H u as Vs = some H' → Q .next ρ H' →
    wpAny (model prog w) A (assignInOrder (ts.map fun t => PySem.assign t env) vs) (fun _ => EndF prog w base caddr env μ s Q .next) (fun _ _ => False) s := by
  induction as with
  | nil =>
    intro ts Vs vs H H' μ s C eo m r b q
    obtain rfl := List.isEmpty_iff.mp m
    cases Vs with
    | cons _ _ => cases b
    | nil => cases b; exact wpAny_pure (.mk s.heap s.toks μ ρ _ rfl C ExtB.refl eo (.inl ⟨rfl, q⟩))
  | cons a as ih =>
    intro ts Vs vs H H' μ s C eo m r b q
    cases Vs with
    | nil => cases b
    | cons Z Vs =>
      obtain ⟨H1, hp, b⟩ := Option.bind_eq_some_iff.mp (show (putAttr H u a Z).bind (fun H1 => putAttrs H1 u as Vs) = some H' from b)
      refine mAttrs_el m fun p px ts ha hv hd m2 => r.el fun v vs rv rs => ?_
      rw [List.map_cons]
      refine assignInOrder_cons ?_
      show wpAny _ A (do
        let ov ← holding [v] (eval (.Name (Str.ofString x) px) env)
        standAt p.atName
        holding [v, ov] (setAttr ov (Str.ofString a) v)
        release [v, ov] []) _ _ s
      refine wpAny_bind (wpAny_holding ((wp_var (Q := fun z H₁ => z = u ∧ H₁ = H) C eo hx (isV_of hv) hd ⟨rfl, rfl⟩).nestS fun ov h1 tk1 μ1 U H1' C1 E1 r1 q1 => ?_))
      obtain ⟨rfl, rfl⟩ := q1
      refine wpAny_bind (wpAny_standAt (wpAny_bind (wpAny_holding ((wp_setAttr (s := { s with heap := h1, toks := tk1 }) (Q := fun _ H₂ => H₂ = H1) S C1 r1 (rv.ext E1) hp ha rfl).nestS fun _ h2 tk2 μ2 _ H2 C2 E2 _ q2 => wpAny_release ?_))))
      subst q2
      have E := E1.trans E2
      exact wpAny_mono (ih (s := { s with heap := h2, toks := tk2 }) C2 (eo.ext E) m2 (rs.ext E) b q) (fun _ s₂ z => EndS.of E.toB z) fun _ _ x => x
theorem putAttrs_len {u : V} {as : List String} : ∀ {H : Hp} {vs : List V} {H' : Hp}, putAttrs H u as vs = some H' → vs.length = as.length := by
  induction as with
  | nil => intro H vs H' b; cases vs with
    | nil => rfl
    | cons _ _ => cases b
  | cons x xs ih => intro H vs H' b; cases vs with
    | nil => cases b
    | cons Z Vs =>
      obtain ⟨H1, hp, b⟩ := Option.bind_eq_some_iff.mp (show (putAttr H u x Z).bind (fun H1 => putAttrs H1 u xs Vs) = some H' from b)
      exact congrArg (· + 1) (ih b)
theorem PS.assignAttrs (S : Stat K base mg mb caddr) (G : StatG K mg) (x : String) (as : List String) (e : LE) : PS prog w base caddr mg (.assignAttrs x as e) := ⟨fun {t env ρ A n C μ s H Q} X m q => asg_el m fun t v pos m => an m fun m1 m => tupIs_el m1 fun ts k p mn => by
  refine Assign_Tuple (X.nestS ((pe S G e).ev X m q) fun a h1 tk1 μ1 Z H1 X1 E1 r1 q1 => ?_) (swaps_at (t := .Tuple ts k p) (line := pos.line) m rfl) (attrs_noSwap mn)
  obtain ⟨vs, u, H', rfl, hu, hb, q1⟩ := q1
  refine r1.tel fun ad items T nt rs => ?_
  obtain ⟨ee, hl, _⟩ := mAttrs_each (env := env) mn
  refine assign_Tuple_tuple (s := { s with heap := h1, toks := tk1 }) X.ctx.hh T (ee.1.trans (hl.trans ((putAttrs_len hb).symm.trans (IsL_size rs).symm))) ee.2.1 fun h2 hx => ?_
  rw [ee.2.2]
  have k2 : ∀ b o, h1.get? b = some o → h2.get? b = some o := extBut_new (s := { s with heap := h1, toks := tk1 }) h2 hx
  have E1' := Ext.keeps μ1 k2
  exact wpAny_mono (attrs_store (s := { s with heap := h2, toks := tk1 }) S hu as (X1.core.keeps k2) (X1.env.ext E1') mn (rs.ext E1') hb q1) (fun _ s₂ z => EndS.of (E1.trans E1').toB z) fun _ _ x => x⟩
end
end Mine
end
noncomputable section
open PySem PySem.W PyProof.Rows
set_option maxRecDepth 100000
namespace Mine
section
variable {prog : Program} {w : World} {base : Heap} {caddr : Cls → Addr} {K : Frag} {mg mb : Str → Option Value}
variable {A : Around} {μ μ' : Mu} {s s' : Shared} {h h' : Heap} {H H' : Hp} {env : PySem.Env} {ρ ρ' : Env} {n : Nat} {Cp : CallP} {Y : Nat → Prop}
theorem Lp.ends {P : Mu → Heap → Env → Hp → Prop} (L : Lp prog w base caddr env Y (envX env) μ s.heap ρ' μ' H' s'.heap) (same : Same s s') (p : P μ' s'.heap ρ' H') : EndS prog w base caddr env μ s P s' := by
  cases same with | mk h tk e => subst e; exact .mk h tk μ' ρ' H' rfl L.C L.X L.eo p
inductive FJ (prog : Program) (w : World) (base : Heap) (caddr : Cls → Addr) (env : PySem.Env) (Y : Nat → Prop) (μ : Mu) (s : Shared) (μ₁ : Mu) (St : Nat → Heap → Prop) (Inv : Nat → Env → Hp → Prop) (len : Nat) (k : Nat) (s' : Shared) : Prop
  | mk (μ' : Mu) (ρ' : Env) (H' : Hp) (j : Nat) (same : Same s s') (L : Lp prog w base caddr env Y (envX env) μ s.heap ρ' μ' H' s'.heap) (mu : ∀ i t a, μ₁ i t = some a → μ' i t = some a) (st : St j s'.heap) (inv : Inv j ρ' H') (hj : j ≤ len) (hk : k = len - j)
theorem for_plain (S : Stat K base mg mb caddr) (G : StatG K mg) {x : String} {k : SrcK} {src : LE} {b : List LS} (hke : k ≠ .enum) (ih : PSs prog w base caddr mg b) {it : Expr} {ta : List Stmt} {px pos : Pos} {Q : PostS} (X : Sit prog w base caddr mg env ρ A n Cp μ s H)
    (hv : isV env.scope.names x = true) (hu : uSrc env.scope.names (mE env.scope.names src) k it = true) (m2 : mSs env.scope.names b ta = true) (q : wpS Cp (.for [x] k src b) ρ Q H) :
    wpAny (model prog w) A (exec (.For (.Name (Str.ofString x) px) it ta [] pos) env) (EndF prog w base caddr env μ s Q) (fun _ _ => False) s := by
  have hfold : okI it.ctorIdx = true := by
    cases k with
    | plain => exact mE_ok hu
    | values => exact uM0_ok hu
    | _ => exact uC1_ok hu
  refine wpAny_For ?_ (folded_plain hfold)
  refine iter_src S G (pe S G src) X hu hke q fun itv s₂ μ₁ H₁ s₁ items keep X₁ E₁ hI hlen q l => ?_
  obtain ⟨Inv, i0, istay, iturn, idone⟩ := q
  cases hI with
  | mk I St h2 tk2 e e' nI C2 E2 offI bI W st0 =>
  subst e e'
  have nw : New base (fun b => b = I) s.heap := fun b hb => by rw [hb]; exact ⟨E₁.none_of nI offI, bI⟩
  have neI : ∀ b, envX env b → b ≠ I := fun b hb e => by obtain ⟨o, ho⟩ := X₁.env.alive hb; rw [e, nI] at ho; cases ho
  refine codeAny_forLoop (FJ prog w base caddr env (fun b => b = I) μ s μ₁ St Inv items.length) (fun kk s' z => ?_) items.length
    (.mk μ₁ ρ H₁ 0 ((l.same X₁.core).to h2 tk2) ⟨C2, (E₁.trans E2).toB, X.env.ext (E₁.trans E2), fun b hb => by rw [hb]; exact offI⟩ (fun _ _ _ e => e) st0 i0 (Nat.zero_le _) rfl)
  cases z with
  | mk μ' ρ' H' j same L mu st inv hj hk =>
  have stay := istay j ρ' H' inv
  have nt := W.nt st
  by_cases hlt : j < items.length
  · have hZ : items[j]? = some items[j] := List.getElem?_eq_getElem hlt
    refine W.item j items[j] μ' H' s' _ _ hZ L.C mu stay (L.off I rfl) st fun v h3 tk3 rv st3 k3 => ?_
    have L3 := L.turn nw (fun _ h => h) neI nt k3
    obtain ⟨ρ'', hb, turn⟩ := iturn j ρ' H' items[j] hZ inv
    cases hb
    refine wpAny_assign_Name (wpAny_mono (st_var (s := { s' with heap := h3, toks := tk3 }) (P := fun μ2 h' ρ2 H2 => ρ2 = ρ'.upd x items[j] ∧ H2 = H' ∧ μ2 = μ') L3.C L3.eo (VRel.keepB (turnK k3) nt rv) (isV_of hv) fun h' => ⟨rfl, rfl, rfl⟩)
      (fun _ s₁ zz => zz.el fun h4 tk4 μ4 ρ4 H4 C4 X4 eo4 p => ?_) fun _ _ x => x)
    obtain ⟨rfl, rfl, rfl⟩ := p
    have L4 := L3.run X4 C4 eo4 fun b hb => by rw [hb]; exact W.get st3
    have st4 : St (j + 1) h4 := W.frame _ _ _ st3 fun o e => X4.keep I o e (L.off I rfl) fun hb => neI I hb rfl
    refine wpAny_noE (wpAny_mono (ih.run (s := { s' with heap := h4, toks := tk4 }) ⟨X.call, X.ctx, C4, eo4⟩ m2 turn) (fun fl s₂ zz => zz.el fun h5 tk5 μ5 ρ5 H5 C5 X5 eo5 p => ?_) fun _ _ x => x)
    have L5 := L4.run X5 C5 eo5 fun b hb => by rw [hb]; exact W.get st4
    rcases p with ⟨rfl, p⟩ | ⟨u, v, rfl, r, p⟩
    · exact ⟨items.length - (j + 1), turn_lt hk hlt, .mk μ5 ρ5 H5 (j + 1) (same.to h5 tk5) L5 (fun i t a e => X5.mu _ _ _ (mu i t a e)) (W.frame _ _ _ st4 fun o e => X5.keep I o e (L4.off I rfl) fun hb => neI I hb rfl) p hlt rfl⟩
    · exact L5.ends (same.to h5 tk5) (.inr ⟨u, v, rfl, r, p⟩)
  · obtain rfl : j = items.length := Nat.le_antisymm hj (Nat.not_lt.mp hlt)
    exact W.done μ' H' s' _ _ L.C mu stay (L.off I rfl) st fun h3 tk3 k3 => wpAny_execs_nil ((L.turn nw (fun _ h => h) neI nt k3).ends (same.to h3 tk3) (.inl ⟨rfl, idone ρ' H' inv⟩))
end
end Mine
end
noncomputable section
open PySem PySem.W PyProof.Rows
set_option maxRecDepth 100000
namespace Mine
section
variable {prog : Program} {w : World} {base : Heap} {caddr : Cls → Addr} {K : Frag} {mg mb : Str → Option Value}
variable {A : Around} {μ μ' μ₁ : Mu} {s s' : Shared} {h h' : Heap} {H H' : Hp} {env : PySem.Env} {ρ ρ' : Env} {n : Nat} {Cp : CallP} {X : Nat → Prop}
theorem two_B {c d : Nat} (hx : X c) (hy : X d) (k : ∀ b o, h.get? b = some o → ¬ (b = c ∨ b = d) → h'.get? b = some o) (l : ∃ o, h'.get? c = some o) (l2 : ∃ o, h'.get? d = some o) : ExtB X μ h μ h' :=
  ⟨⟨fun _ _ _ e => e, fun _ _ _ e => .inl e, fun b o e _ nx => k b o e fun z => nx (z.elim (· ▸ hx) (· ▸ hy))⟩, fun b o _ e _ => by
    by_cases q : b = c ∨ b = d
    · rcases q with rfl | rfl
      · exact l
      · exact l2
    · exact ⟨o, k b o e q⟩⟩
inductive EnSt (e I l : Nat) (j : Nat) (h : Heap) : Prop
  | mk (old : Value) (en : IsEnum h e I ((j : Nat) : Int) old) (it : h.IsListIter I l j)
noncomputable abbrev eY (e I : Nat) (b : Nat) : Prop := b = e ∨ b = I
theorem EnSt.at {e I l j : Nat} (z : EnSt e I l j h) (k : ∀ b o, eY e I b → h.get? b = some o → h'.get? b = some o) : EnSt e I l j h' := by
  cases z with | mk old en it => exact .mk old (k _ _ (.inl rfl) en) (it.at fun o y => k _ o (.inr rfl) y)
theorem EnSt.live {e I l j : Nat} (z : EnSt e I l j h) (b : Nat) (hb : eY e I b) : ∃ o, h.get? b = some o := by
  cases z with | mk old en it =>
  rcases hb with rfl | rfl
  · exact ⟨_, en⟩
  · obtain ⟨o, ho, _⟩ := it; exact ⟨o, ho⟩
theorem EnSt.nt {e I l j : Nat} (z : EnSt e I l j h) : NT (eY e I) h := fun b o hb ho hc its n hd => by
  cases z with | mk old en it =>
  rcases hb with rfl | rfl
  · rw [en] at ho; cases ho; cases hd
  · obtain ⟨o', ho', _, hd'⟩ := it; rw [ho'] at ho; cases ho; rw [hd'] at hd; cases hd
theorem enum_loop {x1 x2 : String} {b : List LS} (ih : PSs prog w base caddr mg b) {ts : List Expr} {ta : List Stmt} {kk : Nat} {tp : Pos} {Q : PostS} {e I l : Nat} {i : Id} {xs : List V} {H₁ : Hp} {Inv : Nat → Env → Hp → Prop} {s₂ : Shared}
    (hC : CallOk prog w base caddr mg n Cp) (hX : CtxA n A) (mn : mNames env.scope.names [x1, x2] ts = true) (m2 : mSs env.scope.names b ta = true) (nw : New base (eY e I) s.heap) (ne : ∀ b, envX env b → ¬ eY e I b) (hei : e ≠ I) (ml : μ₁ i false = some l) (hi : H₁ i = some (.list xs))
    (istay : ∀ j ρ' H', Inv j ρ' H' → H' i = H₁ i) (iturn : ∀ (j : Nat) ρ' H' (x : V), xs[j]? = some x → Inv j ρ' H' → wpSs Cp b ((ρ'.upd x1 (.int j)).upd x2 x) (fun fl ρ₁ H₁ => match fl with
          | .next => Inv (j + 1) ρ₁ H₁
          | .ret v => Q (.ret v) ρ₁ H₁) H')
    (idone : ∀ ρ' H', Inv xs.length ρ' H' → Q .next ρ' H') (j0 : FJ prog w base caddr env (eY e I) μ s μ₁ (EnSt e I l) Inv xs.length xs.length s₂) :
    codeAny (model prog w) A (.forLoop (.Tuple ts kk tp) (.ref e) ta [] env) (fun r s' => match r with | .ok f => EndF prog w base caddr env μ s Q f s' | .error x => cameBackBy (model prog w) A env (fun _ _ => False) x s') s₂ := by
  refine codeAny_forLoop_any (FJ prog w base caddr env (eY e I) μ s μ₁ (EnSt e I l) Inv xs.length) (fun kk s' z => ?_) xs.length j0
  cases z with
  | mk μ' ρ' H' j same L mu st inv hj hk =>
  refine L.C.listM ((istay j ρ' H' inv).trans hi) (mu _ _ _ ml) fun its n1 L1 ra _ => ?_
  have nt := st.nt
  have lv := st.live
  cases st with | mk old en it3 =>
  by_cases hlt : j < xs.length
  · have hx : xs[j]? = some xs[j] := List.getElem?_eq_getElem hlt
    obtain ⟨v, hv, rv⟩ := ra.get hx
    refine wpAny_pyNext_enum_item en it3 ⟨_, L1, rfl, n1, rfl⟩ (x := v) (Array.getElem?_toList.symm.trans hv) hei fun h3 heo hit4 hT hz3 k3 => ?_
    refine wpAny_letOwnedTupleGo_enum (s := { s' with heap := h3, toks := s'.toks + 1 }) heo fun h4 he4 hs4 => ?_
    have hs4' : Heap.SameBut e h3 h4 := hs4
    have heN : s'.heap.objs.size ≠ e := fun z => Nat.lt_irrefl _ (z ▸ Heap.lt_size en)
    have hT4 : IsTup h4 s'.heap.objs.size #[.int j s'.toks, v] := ⟨_, (hs4'.2 _ heN).trans hT, rfl, _, rfl⟩
    have ee := mNames_each (env := env) mn
    refine assign_Tuple_tuple (s := { s' with heap := h4, toks := s'.toks + 1 }) hX.hh hT4 (by rw [ee.1, mNames_len mn]; rfl) ee.2.1 fun h5 hx5 => ?_
    rw [ee.2.2]
    have k5 : ∀ b o, h4.get? b = some o → h5.get? b = some o := extBut_new (s := { s' with heap := h4, toks := s'.toks + 1 }) h5 hx5
    have st5 : EnSt e I l (j + 1) h5 := .mk v (k5 _ _ he4) ((hit4.at fun o y => (hs4'.2 I (Ne.symm hei)).trans y).at fun o y => k5 _ o y)
    have kk5 : ∀ b o, s'.heap.get? b = some o → ¬ eY e I b → h5.get? b = some o := fun b o q nb => k5 b o ((hs4'.2 b fun z => nb (.inl z)).trans (k3 b o (fun z => nb (.inl z)) (fun z => nb (.inr z)) q))
    have L5 := L.turn nw (fun _ h => h) ne nt kk5
    refine names_store (s := { s' with heap := h5, toks := s'.toks + 1 }) (mNames_st mn) (Vs := [.int j, xs[j]]) L5.C L5.eo (VRels.cons VRel.i (VRels.cons (VRel.keepB (turnK kk5) nt rv) VRels.nil)) rfl fun h6 tk6 C6 X6 eo6 => ?_
    have L6 := L5.run X6 C6 eo6 st5.live
    have st6 := st5.at (h' := h6) fun b o hb q => X6.keep _ _ q (L.off b hb) fun z => ne b z hb
    refine wpAny_noE (wpAny_mono (ih.run (s := { s' with heap := h6, toks := tk6 }) ⟨hC, hX, C6, eo6⟩ m2 (iturn j ρ' H' xs[j] hx inv)) (fun fl s₂ zz => zz.el fun h7 tk7 μ7 ρ7 H7 C7 X7 eo7 p => ?_) fun _ _ x => x)
    have L7 := L6.run X7 C7 eo7 st6.live
    rcases p with ⟨rfl, p⟩ | ⟨u, v, rfl, r, p⟩
    · exact ⟨xs.length - (j + 1), turn_lt hk hlt, .mk μ7 ρ7 H7 (j + 1) (same.to h7 tk7) L7 (fun i t a e => X7.mu _ _ _ (mu i t a e)) (st6.at fun b o hb q => X7.keep _ _ q (L.off b hb) fun z => ne b z hb) p hlt rfl⟩
    · exact L7.ends (same.to h7 tk7) (.inr ⟨u, v, rfl, r, p⟩)
  · obtain rfl : j = xs.length := Nat.le_antisymm hj (Nat.not_lt.mp hlt)
    refine wpAny_pyNext_enum_end hX.hh en it3 ⟨_, L1, rfl, n1, rfl⟩ (Array.getElem?_eq_none (Nat.le_of_eq (IsL_size ra))) fun h3 hx3 => wpAny_execs_nil ?_
    exact (L.turn nw (fun _ h => h) ne nt fun b o q nb => (hx3 : Heap.ExtBut I _ h3) b o (fun z => nb (.inr z)) q).ends (same.to h3 s'.toks) (.inl ⟨rfl, idone ρ' H' inv⟩)
theorem for_enum (S : Stat K base mg mb caddr) (G : StatG K mg) {x1 x2 : String} {src : LE} {b : List LS} (ih : PSs prog w base caddr mg b) {it : Expr} {ts : List Expr} {ta : List Stmt} {kk : Nat} {tp pos : Pos} {Q : PostS} (X : Sit prog w base caddr mg env ρ A n Cp μ s H)
    (mn : mNames env.scope.names [x1, x2] ts = true) (hu : uSrc env.scope.names (mE env.scope.names src) .enum it = true) (m2 : mSs env.scope.names b ta = true) (q : wpS Cp (.for [x1, x2] .enum src b) ρ Q H) :
    wpAny (model prog w) A (exec (.For (.Tuple ts kk tp) it ta [] pos) env) (EndF prog w base caddr env μ s Q) (fun _ _ => False) s := by
  refine wpAny_For ?_ (folded_plain (uC1_ok hu))
  refine blt1 S G X b_enumerate hu (fun a => mE_ok) fun a ha => X.nestS ((pe S G src).ev X ha q) fun v h1 tk1 μ₁ Z H₁ X₁ E₁ r q => ?_
  obtain ⟨items, keep, hs, Inv, i0, istay, iturn, idone⟩ := q
  refine objV_el hs fun i hZ e => listP_el e fun xs hi e => ?_
  subst hZ; cases e
  refine Core.listAt r X₁.core hi fun l its0 n0 ml L0 _ _ => call_enumerate_1 (s := { s with heap := h1, toks := tk1 }) L0 fun h2 hE hit hsz k2 => ?_
  have ne1 : h1.get? (h1.objs.size + 1) = none := get?_above (Nat.le_succ _)
  have nI1 : h1.get? h1.objs.size = none := get?_size _
  have hei : h1.objs.size + 1 ≠ h1.objs.size := Nat.succ_ne_self _
  show wpAny _ A (pyIter (.ref (h1.objs.size + 1))) _ _ _
  have hE : IsEnum h2 (h1.objs.size + 1) h1.objs.size 0 .none := hE
  have hit : h2.IsListIter h1.objs.size l 0 := hit
  have k2 : ∀ b o, h1.get? b = some o → h2.get? b = some o := k2
  revert ne1 nI1 hei hE hit
  generalize h1.objs.size + 1 = e
  generalize h1.objs.size = I
  intro ne1 nI1 hei hE hit
  have C₁ : Core prog w base caddr μ₁ H₁ h1 := X₁.core
  have nb : ∀ b, eY e I b → h1.get? b = none := fun b hb => by
    rcases hb with rfl | rfl
    · exact ne1
    · exact nI1
  refine wpAny_pyIter_enum (s := { s with heap := h2, toks := tk1 }) hE ?_
  refine enum_loop (Inv := Inv) ih X.call X.ctx mn m2 (fun b hb => ⟨E₁.none_of (nb b hb) (C₁.ne_new (nb b hb)), C₁.new_base (nb b hb)⟩) (fun b hb z => by obtain ⟨o, ho⟩ := (X.env.ext E₁).alive hb; rw [nb b z] at ho; cases ho) hei ml hi istay
    (fun j ρ' H' x hx inv => ?_) (fun ρ' H' inv => idone ρ' H' (by rw [List.length_map, List.length_zipIdx]; exact inv))
    (.mk μ₁ ρ H₁ 0 (.mk h2 tk1 rfl) ⟨C₁.keeps k2, (E₁.trans (Ext.keeps μ₁ k2)).toB, X.env.ext (E₁.trans (Ext.keeps μ₁ k2)), fun b hb => C₁.ne_new (nb b hb)⟩ (fun _ _ _ e => e) (.mk .none hE hit) i0 (Nat.zero_le _) rfl)
  obtain ⟨ρ'', hb, turn⟩ := iturn j ρ' H' (.tup [.int j, x]) (by rw [List.getElem?_map, List.getElem?_zipIdx, hx]; exact congrArg some (by rw [Nat.zero_add])) inv
  cases hb; exact turn
theorem len_two {α : Type} {l : List α} (h : l.length = 2) : ∃ a b, l = [a, b] := by
  cases l with
  | nil => cases h
  | cons a l => cases l with
    | nil => cases h
    | cons b l => exact ⟨a, b, by rw [List.eq_nil_of_length_eq_zero (Nat.succ.inj (Nat.succ.inj h))]⟩
theorem PS.for (S : Stat K base mg mb caddr) (G : StatG K mg) (xs : List String) (k : SrcK) (src : LE) {b : List LS} (ih : PSs prog w base caddr mg b) : PS prog w base caddr mg (.for xs k src b) := ⟨fun {t env ρ A n C μ s H Q} X m q =>
  for_el (st := t) (show (t.ctorIdx == 9 && (one (forT env.scope.names xs k) (sd t).ts && (opt (uSrc env.scope.names (mE env.scope.names src) k) (sd t).v && (mSs env.scope.names b (sd t).a && (sd t).b.isEmpty)))) = true from m) fun t it a p mt m1 m2 => by
    by_cases hke : k = .enum
    · subst hke
      refine an (show (xs.length == 2 && tupIs (mNames env.scope.names xs) t) = true from mt) fun hl mt => tupIs_el mt fun ts kk tp mn => ?_
      obtain ⟨x1, x2, rfl⟩ := len_two (eq_of_beq hl)
      exact for_enum S G ih X mn m1 m2 q
    · have mt : mNames env.scope.names xs [t] = true := by
        unfold forT at mt
        rw [beq_eq_false_iff_ne.mpr hke] at mt
        exact mt
      cases xs with
      | nil => cases mt
      | cons x xs =>
        refine an mt fun m3 m4 => ?_
        cases xs with
        | cons _ _ => cases m4
        | nil => exact nmIs_el m3 fun px hv _ => for_plain S G hke ih X hv m1 m2 q⟩
mutual
theorem ps (S : Stat K base mg mb caddr) (G : StatG K mg) : ∀ st : LS, PS prog w base caddr mg st
  | .assign x e => .assign S G x e
  | .assignTup xs e => .assignTup S G xs e
  | .assignAttr o a e => .assignAttr S G o a e
  | .assignAttrs x as e => .assignAttrs S G x as e
  | .assignIdx o i e => .assignIdx S G o i e
  | .augAttr o a op e => .augAttr S G o a op e
  | .augIdx o i op e => .augIdx S G o i op e
  | .expr e => .expr S G e
  | .ret e => .ret S G e
  | .ifs c t f => .ifs S G c (pss S G t) (pss S G f)
  | .while c b => .while S G c (pss S G b)
  | .for xs k src b => .for S G xs k src (pss S G b)
  | .delIdx o i => .delIdx S G o i
  | .pass => .pass
  | .fail => .fail
theorem pss (S : Stat K base mg mb caddr) (G : StatG K mg) : ∀ ls : List LS, PSs prog w base caddr mg ls
  | [] => .nil
  | l :: ls => .cons (ps S G l) (pss S G ls)
end
end
end Mine
end
noncomputable section
open PySem PySem.W PyProof.Rows
set_option maxRecDepth 100000
namespace Mine
inductive Def where
  | fn (params : List String) (body : List LS)
  | cls (c : Cls) (params : List String) (body : List LS)
noncomputable abbrev Tab := String → Option Def
noncomputable def callP (T : Tab) : Nat → CallP
  | 0 => fun _ _ _ _ => False
  | n + 1 => fun f args Q H => match T f with
    | some (.fn ps b) => ∃ ρ, bindAll (fun _ => none) ps args = some ρ ∧ wpSs (callP T n) b ρ (fun fl _ H' => match fl with
        | .next => Q .none H'
        | .ret v => Q v H') H
    | some (.cls c ps b) => ∃ i, H i = none ∧ ∃ ρ, bindAll (fun _ => none) ps (.obj i :: args) = some ρ ∧ wpSs (callP T n) b ρ (fun fl _ H' => match fl with
        | .next => Q (.obj i) H'
        | .ret _ => False) (H.set i (.inst c []))
    | none => False
section
variable {prog : Program} {w : World} {base : Heap} {caddr : Cls → Addr} {K : Frag} {mg mb : Str → Option Value}
variable {A : Around} {μ μ' : Mu} {s : Shared} {h h' : Heap} {H : Hp} {env : PySem.Env} {ρ : Env} {n : Nat}
theorem lookup_zip_at {ks : List Str} : ∀ {vs : List Value} {n : Nat} {k : Str}, vs.length = ks.length → ks.Nodup → ks[n]? = some k → ∃ v, vs[n]? = some v ∧ (ks.zip vs).lookup k = some v := by
  induction ks with
  | nil => intro vs n k _ _ e; cases e
  | cons x r ih =>
    intro vs n k hl hn e
    cases vs with
    | nil => cases hl
    | cons v vs =>
      rw [List.zip_cons_cons]
      cases n with
      | zero => cases e; exact ⟨v, rfl, by rw [List.lookup_cons, beq_self_eq_true]⟩
      | succ n =>
        obtain ⟨u, h1, h2⟩ := ih (Nat.succ.inj hl) (List.nodup_cons.mp hn).2 (n := n) e
        refine ⟨u, h1, ?_⟩
        rw [List.lookup_cons, beq_eq_false_iff_ne.mpr fun z => (List.nodup_cons.mp hn).1 (by rw [← z]; exact List.mem_of_getElem? e)]
        exact h2
theorem fm_zip {ks : List Str} {f : Str → Option Value} : ∀ {vs : List Value}, vs.length = ks.length → (∀ (n : Nat) (k : Str), ks[n]? = some k → ∃ v, vs[n]? = some v ∧ f k = some v) → ks.filterMap (fun n => (f n).map (n, ·)) = ks.zip vs := by
  induction ks with
  | nil => intro vs _ _; rfl
  | cons x r ih =>
    intro vs hl h
    cases vs with
    | nil => cases hl
    | cons v vs =>
      obtain ⟨u, h1, h2⟩ := h 0 x rfl
      cases h1
      rw [List.filterMap_cons_some (by rw [h2]; rfl), ih (Nat.succ.inj hl) fun n k e => h (n + 1) k e]; rfl
theorem sem_pb {α β : Type} (a : α) (f : α → Sem β) : ((pure a : Sem α) >>= f) = f a := rfl
theorem sem_fi {α β : Type} (b : β) (f : α → β → Sem (ForInStep β)) : (forIn ([] : List α) b f : Sem β) = pure b := rfl
theorem sem_e0 : seqItems? .none = pure none := rfl
theorem bind_plain {fd : FuncData} {as : List PySem.Arg} {vals : List Value} (hp : fd.params = ⟨[], as, none, [], [], none, []⟩) (hd : fd.defaults = .none) (hl : vals.length = as.length) (hn : (as.map (·.arg)).Nodup) :
    bindArgs fd ⟨vals, []⟩ = pure ((as.map (·.arg)).zip vals) := by
  have hl' : vals.length = (as.map (·.arg)).length := by rw [List.length_map]; exact hl
  obtain ⟨nm, qn, pa, bo, sc, gl, clo, de, kd, doc, pm, an, co, ct, bu⟩ := fd
  obtain rfl : pa = _ := hp
  obtain rfl : de = _ := hd
  have nm : ((as.map PySem.Arg.arg).filter fun n => (((as.map PySem.Arg.arg).zip vals).lookup n).isNone) = [] := List.filter_eq_nil_iff.mpr fun k hk => by
    obtain ⟨n, hn', e⟩ := List.mem_iff_getElem.mp hk
    obtain ⟨v, _, h2⟩ := lookup_zip_at hl' hn (n := n) (k := k) (by rw [List.getElem?_eq_getElem hn', e])
    rw [h2]; exact fun h => Bool.noConfusion h
  delta bindArgs
  dsimp only [sem_e0, sem_pb, sem_fi, Option.getD_none, Array.toList]
  refine (if_neg ?_).trans ((if_neg ?_).trans ?_)
  · show ¬ (decide (vals.length > (as.map PySem.Arg.arg).length) && true) = true
    rw [hl', Bool.and_true, decide_eq_true_iff]; exact Nat.lt_irrefl _
  · rw [List.drop_nil]
    show ¬ ((!(((as.map PySem.Arg.arg).take ((as.map PySem.Arg.arg).length - 0)).filter fun n => (((as.map PySem.Arg.arg).zip vals).lookup n).isNone).isEmpty) = true)
    rw [Nat.sub_zero, List.take_length, nm]; exact fun h => Bool.noConfusion h
  · rw [List.drop_nil, List.zip_nil_right]
    show (pure (((as.map PySem.Arg.arg) ++ []).filterMap fun n => (((as.map PySem.Arg.arg).zip vals).lookup n).map (n, ·)) : Sem (List (Str × Value))) = _
    rw [List.append_nil]
    exact congrArg pure (fm_zip hl' fun n k e => lookup_zip_at hl' hn e)
end
end Mine
end
noncomputable section
open PySem PySem.W PyProof.Rows
set_option maxRecDepth 100000
namespace Mine
noncomputable def mNamesA : List String → List PySem.Arg → Bool
  | [] => fun as => as.isEmpty
  | x :: xs => un fun a r => a.arg == Str.ofString x && mNamesA xs r
noncomputable def cellsHave (names : Names) : Bool := names.all fun p => p.2 != .cell || ((cellsFrom 0 names []).lookup p.1).isSome
noncomputable def stIs (f : List Stmt → Bool) : FuncBody → Bool
  | .stmts b => f b
  | _ => false
noncomputable def plainP (f : List PySem.Arg → Bool) (p : Arguments) : Bool := p.posonlyargs.isEmpty && (p.vararg.isNone && (p.kwonlyargs.isEmpty && (p.kw_defaults.isEmpty && (p.kwarg.isNone && (p.defaults.isEmpty && f p.args)))))
noncomputable def fnOk (K : Frag) (fd : FuncData) (ps : List String) (b : List LS) : Bool :=
  plainP (mNamesA ps) fd.params && (stIs (mSs fd.scope.names b) fd.body && (fd.defaults.ctorIdx == 0 && (fd.closure.isEmpty && (fd.globals == mainGlobals && (fd.builtins == builtinsNs && (fd.scope.kind == .function && (!fd.scope.isCoroutine && (!fd.scope.isGenerator &&
  (decide ((ps.map Str.ofString).Nodup) && (ps.all (fun p => isV fd.scope.names p) && (decide (((cellsFrom 0 fd.scope.names []).map (·.1)).Nodup) && (cellsHave fd.scope.names && codeIn K fd.code fd.qualname))))))))))))
theorem mNamesA_of {xs : List String} {as : List PySem.Arg} (m : mNamesA xs as = true) : as.map (·.arg) = xs.map Str.ofString := by
  induction xs generalizing as with
  | nil => obtain rfl := List.isEmpty_iff.mp m; rfl
  | cons x xs ih => exact un_el m fun a r m => an m fun h1 h2 => by rw [List.map_cons, List.map_cons, eq_of_beq h1, ih h2]
structure FnOk (K : Frag) (fd : FuncData) (ps : List String) (b : List LS) : Prop where
  params : ∃ as, fd.params = ⟨[], as, none, [], [], none, []⟩ ∧ as.map (·.arg) = ps.map Str.ofString
  body : ∃ body, fd.body = .stmts body ∧ mSs fd.scope.names b body = true
  dflt : fd.defaults = .none
  clo : fd.closure = []
  glob : fd.globals = mainGlobals
  blt : fd.builtins = builtinsNs
  kind : fd.scope.kind = .function
  co : fd.scope.isCoroutine = false
  gen : fd.scope.isGenerator = false
  nd : (ps.map Str.ofString).Nodup
  vars : ∀ p ∈ ps, isV fd.scope.names p = true
  cnd : ((cellsFrom 0 fd.scope.names []).map (·.1)).Nodup
  chave : ∀ p ∈ fd.scope.names, p.2 = .cell → ((cellsFrom 0 fd.scope.names []).lookup p.1).isSome = true
  code : codeIn K fd.code fd.qualname = true
theorem plainP_of {f : List PySem.Arg → Bool} {p : Arguments} (h : plainP f p = true) : ∃ as, p = ⟨[], as, none, [], [], none, []⟩ ∧ f as = true := by
  obtain ⟨a, b, c, d, e, f', g⟩ := p
  refine an h fun h1 h => an h fun h2 h => an h fun h3 h => an h fun h4 h => an h fun h5 h => an h fun h6 h => ⟨b, ?_, h⟩
  obtain rfl : a = [] := List.isEmpty_iff.mp h1
  obtain rfl : c = none := Option.isNone_iff_eq_none.mp h2
  obtain rfl : d = [] := List.isEmpty_iff.mp h3
  obtain rfl : e = [] := List.isEmpty_iff.mp h4
  obtain rfl : f' = none := Option.isNone_iff_eq_none.mp h5
  obtain rfl : g = [] := List.isEmpty_iff.mp h6
  rfl
theorem stIs_of {f : List Stmt → Bool} {b : FuncBody} (h : stIs f b = true) : ∃ l, b = .stmts l ∧ f l = true := by
  cases b with
  | stmts l => exact ⟨l, rfl, h⟩
  | _ => cases h
theorem fnOk_of {K : Frag} {fd : FuncData} {ps : List String} {b : List LS} (h : fnOk K fd ps b = true) : FnOk K fd ps b := by
  refine an h fun h1 h => an h fun h2 h => an h fun h3 h => an h fun h4 h => an h fun h5 h => an h fun h6 h => an h fun h7 h => an h fun h8 h => an h fun h9 h => an h fun h10 h => an h fun h11 h => an h fun h12 h => an h fun h13 h14 => ?_
  obtain ⟨as, e, m⟩ := plainP_of h1
  exact ⟨⟨as, e, mNamesA_of m⟩, stIs_of h2, Value.none.elim (motive := fun v => v = .none) fd.defaults (eq_of_beq h3) rfl, List.isEmpty_iff.mp h4, eq_of_beq h5, eq_of_beq h6, eq_of_beq h7, bnot h8, bnot h9, of_decide_eq_true h10, List.all_eq_true.mp h11, of_decide_eq_true h12,
    fun p hp e => (Bool.or_eq_true_iff.mp (List.all_eq_true.mp h13 p hp)).resolve_left fun z => bne_iff_ne.mp z e, h14⟩
section
variable {prog : Program} {w : World} {base : Heap} {caddr : Cls → Addr} {K : Frag} {mg mb : Str → Option Value}
variable {A : Around} {μ μ' : Mu} {s : Shared} {h h' : Heap} {H : Hp} {env : PySem.Env} {ρ : Env} {n : Nat}
structure CtxB (n : Nat) (A : Around) : Prop where
  hh : A.handled = none
  depth : A.depth + 4 * n + 2 ≤ 900
  units : A.units + 10 * n + 5 ≤ 9000
theorem CtxA.toB (X : CtxA (n + 1) A) : CtxB n A := ⟨X.hh, by have := X.depth; lia, by have := X.units; lia⟩
theorem CtxA.toB' (X : CtxA (n + 1) A) (a : Addr) (vs : List Value) : CtxB n (A.under (.builtin "type.__call__" ⟨.ref a :: vs, []⟩)) :=
  ⟨X.hh, by have := X.depth; rw [depth_under_make]; lia, by have := X.units; rw [units_under_make]; lia⟩
theorem CtxB.deeper (X : CtxB n A) (env : PySem.Env) : CtxA n (A.deeper env) :=
  ⟨X.hh, by have := X.depth; rw [depth_deeper]; lia, by have := X.units; rw [units_deeper]; lia⟩
theorem isSome_names {α : Type} {x : Str} {l l' : List (Str × α)} (e : l.map (·.1) = l'.map (·.1)) : (l.lookup x).isSome = (l'.lookup x).isSome := by
  induction l generalizing l' with
  | nil => cases l' with
    | nil => rfl
    | cons _ _ => cases e
  | cons p r ih => cases l' with
    | nil => cases e
    | cons q t =>
      have e1 : p.1 = q.1 := (List.cons.inj e).1
      rw [List.lookup_cons, List.lookup_cons, e1]
      cases x == q.1
      · exact ih (List.cons.inj e).2
      · rfl
noncomputable def Bound (kindOf : Str → Option NameKind) (μ : Mu) (h : Heap) (ρ : Env) (m cm : Str → Option Value) : Prop :=
  ∀ x Z, ρ x = some Z → (kindOf (Str.ofString x) = some .local ∨ kindOf (Str.ofString x) = some .cell) → ∃ v, VRel μ h Z v ∧ ((kindOf (Str.ofString x) = some .local ∧ m (Str.ofString x) = some v) ∨ (kindOf (Str.ofString x) = some .cell ∧ cm (Str.ofString x) = some v))
theorem bound_all {kindOf : Str → Option NameKind} {ps : List String} {args : List V} {vals : List Value} {ρ ρ' : Env} {m cm : Str → Option Value} (hk : ∀ p ∈ ps, kindOf (Str.ofString p) = some .local ∨ kindOf (Str.ofString p) = some .cell) (rs : VRels μ h args vals)
    (hb : bindAll ρ ps args = some ρ') (b : Bound kindOf μ h ρ m cm) : Bound kindOf μ h ρ' (bindL kindOf ((ps.map Str.ofString).zip vals) m) (bindC kindOf ((ps.map Str.ofString).zip vals) cm) := by
  induction ps generalizing args vals ρ m cm with
  | nil => cases args with
    | cons _ _ => cases hb
    | nil => cases hb; exact b
  | cons p ps ih => cases args with
    | nil => cases hb
    | cons Z Zs =>
      refine rs.el fun v vs rv rs => ?_
      refine ih (fun q hq => hk q (.tail _ hq)) rs (ρ := ρ.upd p Z) hb fun x Y hx hkx => ?_
      unfold Env.upd at hx
      by_cases hxp : x = p
      · subst hxp
        rw [if_pos rfl] at hx; cases hx
        refine ⟨v, rv, ?_⟩
        rcases hk x (.head _) with q | q
        · exact .inl ⟨q, by rw [if_pos q]; exact if_pos rfl⟩
        · exact .inr ⟨q, by rw [if_neg (by rw [q]; intro z; cases z)]; exact if_pos rfl⟩
      · rw [if_neg hxp] at hx
        obtain ⟨u, ru, c⟩ := b x Y hx hkx
        have ne : Str.ofString x ≠ Str.ofString p := fun e => hxp (str_ofString_inj e)
        refine ⟨u, ru, c.imp (fun c => ⟨c.1, ?_⟩) fun c => ⟨c.1, ?_⟩⟩
        · split
          · exact (if_neg ne).trans c.2
          · exact c.2
        · split
          · exact c.2
          · exact (if_neg ne).trans c.2
theorem pair_apart {x y : Str} {c : Addr} {l : List (Str × Addr)} (hl : l.Pairwise (fun x y => x.2 ≠ y.2)) (h1 : (x, c) ∈ l) (h2 : (y, c) ∈ l) : x = y := by
  induction hl with
  | nil => cases h1
  | @cons p r hd _ ih =>
    rcases List.mem_cons.mp h1 with e1 | e1
    · rcases List.mem_cons.mp h2 with e2 | e2
      · exact congrArg Prod.fst (e1.trans e2.symm)
      · exact (hd _ e2 (congrArg Prod.snd e1).symm).elim
    · rcases List.mem_cons.mp h2 with e2 | e2
      · exact (hd _ e1 (congrArg Prod.snd e2).symm).elim
      · exact ih e1 e2
theorem run_fn (S : Stat K base mg mb caddr) (G : StatG K mg) {Cp : CallP} (hC : CallOk prog w base caddr mg n Cp) {a : Addr} {o : Obj} {fd : FuncData} {ps : List String} {b : List LS} (ho : s.heap.get? a = some o) (hd : o.data = .func fd) (F : FnOk K fd ps b)
    (hX : CtxB n A) (C : Core prog w base caddr μ H s.heap) {args : List V} {vals : List Value} (rs : VRels μ s.heap args vals) (hb : bindAll (fun _ => none) ps args = some ρ) {Q : PostS} (q : wpSs Cp b ρ Q H) {R : Result → Shared → Prop}
    (hN : ∀ h' tk μ' ρ' H', Core prog w base caddr μ' H' h' → Ext μ s.heap μ' h' → Q .next ρ' H' → R (.ok (.ret .none)) { s with heap := h', toks := tk })
    (hV : ∀ h' tk μ' ρ' H' Z v, Core prog w base caddr μ' H' h' → Ext μ s.heap μ' h' → VRel μ' h' Z v → Q (.ret Z) ρ' H' → R (.ok (.ret v)) { s with heap := h', toks := tk }) :
    codeAny (model prog w) A (.call (.ref a) ⟨vals, []⟩) R s := by
  obtain ⟨as, hp, hpn⟩ := F.params
  obtain ⟨body, hbody, mm⟩ := F.body
  have hlen : vals.length = as.length := by
    have h3 := congrArg List.length hpn
    rw [List.length_map, List.length_map] at h3
    exact rs.length.trans ((bindAll_len hb).trans h3.symm)
  have hbind := bind_plain hp F.dflt hlen (by rw [hpn]; exact F.nd)
  rw [hpn] at hbind
  have hkd : ∀ p ∈ ps, fd.scope.names.lookup (Str.ofString p) = some .local ∨ fd.scope.names.lookup (Str.ofString p) = some .cell := fun p hp => an (F.vars p hp) fun _ h => (Bool.or_eq_true_iff.mp h).imp eq_of_beq eq_of_beq
  have hcl : ∀ N x, fd.scope.names.lookup x = some .cell → ((cellsFrom N fd.scope.names []).lookup x).isSome = true := fun N x hx => by
    rw [isSome_names (cellsFrom_names fd.scope.names N 0 [] [] rfl)]
    exact F.chave _ (lookup_mem hx) rfl
  refine codeAny_call_cells (fd := fd) (Nat.lt_of_le_of_lt (Nat.le_trans (Nat.le_trans (Nat.le_add_right _ _) (Nat.le_add_right _ _)) hX.depth) (by decide)) ho hd (S.nolimit.keeps C.bas) (codeRec_of (S.X.keeps C.bas) F.code) hbody hbind F.clo (fun x hx => ?_) (fun s₁ I => ?_) F.co F.gen F.kind
  · obtain ⟨p, hp, e⟩ := List.mem_map.mp (List.of_mem_zip (show (x.1, x.2) ∈ _ from hx)).1
    rw [← e]
    exact (hkd p hp).imp id fun z => ⟨z, hcl _ _ z⟩
  · obtain ⟨⟨h1, tk1, rfl⟩, hns, keep, _⟩ := I.toInCall
    have hk : ∀ x, (callEnvC fd s.heap.objs.size a).kindOf x = fd.scope.names.lookup x := fun x => rfl
    have cnd : ((callEnvC fd s.heap.objs.size a).cells.map (·.1)).Nodup := by
      show ((cellsFrom (s.heap.objs.size + 1) fd.scope.names []).map (·.1)).Nodup
      rw [cellsFrom_names fd.scope.names (s.heap.objs.size + 1) 0 [] [] rfl]; exact F.cnd
    have newAt : ∀ b, envX (callEnvC fd s.heap.objs.size a) b → s.heap.get? b = none := fun b hb => by
      rcases hb with rfl | ⟨x, hx⟩
      · exact get?_size _
      · exact get?_above (Nat.le_of_lt (I.above x b hx))
    have eo : EnvOk base (callEnvC fd s.heap.objs.size a) μ h1 ρ := by
      refine ⟨F.kind, F.glob, F.blt, fun b hb => ⟨C.new_base (newAt b hb), C.ne_new (newAt b hb)⟩, fun x c hx => Nat.ne_of_gt (I.above x c hx), fun x y c hx hy => pair_apart I.apart hx hy, fun x c hx => ?_, fun x hx => Option.isSome_iff_exists.mp (hcl _ _ (hk x ▸ hx)), _, hns, fun x Z hx hv => ?_⟩
      · obtain ⟨o, ho, hd⟩ := I.cell x c (lookup_of_mem_nodup cnd hx)
        exact ⟨o, _, ho, hd⟩
      · have bd := bound_all (μ := μ) (h := s.heap) (kindOf := (callEnvC fd s.heap.objs.size a).kindOf) (m := fun _ => none) (cm := fun _ => none) hkd rs hb (fun x Z hx => nomatch hx)
        obtain ⟨v, rv, c⟩ := bd x Z hx hv.2
        refine ⟨v, rv.ext (Ext.keeps μ keep), c.imp id fun c => ⟨c.1, ?_⟩⟩
        obtain ⟨cc, hcc⟩ := Option.isSome_iff_exists.mp (hcl (s.heap.objs.size + 1) _ c.1)
        obtain ⟨o, ho, hd⟩ := I.cell _ cc hcc
        rw [c.2] at hd
        exact ⟨cc, o, hcc, ho, hd⟩
    refine wpAny_noE (wpAny_mono ((pss S G b).run (s := { s with heap := h1, toks := tk1 }) ⟨hC, hX.deeper _, C.keeps keep, eo⟩ mm q) (fun fl s₂ z => z.el fun h2 tk2 μ2 ρ2 H2 C2 X2 eo2 p => ?_) fun _ _ x => x)
    have E2 := ((((Ext.keeps μ keep).toB (X := envX (callEnvC fd s.heap.objs.size a))).trans X2).toExt fun b o hb e => by rw [newAt b hb] at e; cases e)
    rcases p with ⟨rfl, p⟩ | ⟨Z, v, rfl, r, p⟩
    · exact hN h2 tk2 μ2 ρ2 H2 C2 E2 p
    · exact hV h2 tk2 μ2 ρ2 H2 Z v C2 E2 r p
inductive DefOk (K : Frag) (caddr : Cls → Addr) : Value → Def → Prop where
  | fn {a : Addr} {o : Obj} {fd : FuncData} {ps : List String} {b : List LS} (hl : K.lookup a = some o) (hd : o.data = .func fd) (F : FnOk K fd ps b) : DefOk K caddr (.ref a) (.fn ps b)
  | cls {c : Cls} {fI : Addr} {o : Obj} {fd : FuncData} {ps : List String} {b : List LS} (hi : findIn K (.ref (caddr c)) "__init__" = some (some (.ref fI))) (hf : typeIn K (.ref fI) = some (.type "function"))
      (hl : K.lookup fI = some o) (hd : o.data = .func fd) (F : FnOk K fd ps b) : DefOk K caddr (.ref (caddr c)) (.cls c ps b)
noncomputable def TabOk (K : Frag) (caddr : Cls → Addr) (mg : Str → Option Value) (T : Tab) : Prop := ∀ f d v, T f = some d → mg (Str.ofString f) = some v → DefOk K caddr v d
theorem call_ok (S : Stat K base mg mb caddr) (G : StatG K mg) {T : Tab} (hT : TabOk K caddr mg T) (n : Nat) : CallOk prog w base caddr mg n (callP T n) := by
  induction n with
  | zero => exact fun f args Q H v q => q.elim
  | succ n ih =>
    intro f args Q H v q hv A μ s vs X C rs
    have q : (match T f with
      | some (.fn ps b) => ∃ ρ, bindAll (fun _ => none) ps args = some ρ ∧ wpSs (callP T n) b ρ (fun fl _ H' => match fl with
          | .next => Q .none H'
          | .ret v => Q v H') H
      | some (.cls c ps b) => ∃ i, H i = none ∧ ∃ ρ, bindAll (fun _ => none) ps (.obj i :: args) = some ρ ∧ wpSs (callP T n) b ρ (fun fl _ H' => match fl with
          | .next => Q (.obj i) H'
          | .ret _ => False) (H.set i (.inst c []))
      | none => False) := q
    generalize hf : T f = d at q
    cases d with
    | none => exact q.elim
    | some d =>
      cases hT f d v hf hv with
      | fn hl hd F =>
        obtain ⟨ρ, hb, q⟩ := q
        exact wpAny_call (run_fn S G ih (C.bas _ _ (S.X _ _ hl)) hd F X.toB C rs hb q (fun h' tk μ' ρ' H' C' E' p => .mk h' tk μ' V.none H' rfl C' E' VRel.n p) fun h' tk μ' ρ' H' Z v C' E' r p => .mk h' tk μ' Z H' rfl C' E' r p)
      | @cls c fI o fd ps b hi hfn hl hd F =>
        obtain ⟨i, hni, ρ, hb, q⟩ := q
        obtain ⟨μ1, m1, C1, E1⟩ := C.allocInst (caddr := caddr) (c := c) hni rfl
        have XX := S.X.keeps C.bas
        obtain ⟨hp, g, dr, t, os⟩ := s
        refine wpAny_call (make_core (makes_of XX (S.cmake c)) (looks_findIn XX hi) (fun self => bind_fn XX self hfn) (.inl rfl) ?_)
        exact run_fn (s := ⟨(hp.push emptyDict).push (instObj (caddr c) hp.objs.size), g, dr, t, os⟩) S G ih (C1.bas _ _ (S.X _ _ hl)) hd F (X.toB' _ _) C1 (VRels.cons (VRel.o m1) (rs.ext E1)) hb q
          (fun h' tk μ' ρ' H' C' E' p => ⟨rfl, .mk h' tk μ' (V.obj i) H' rfl C' (E1.trans E') (VRel.o (E'.mu _ _ _ m1)) p⟩) fun _ _ _ _ _ _ _ _ _ _ p => p.elim
end
end Mine
end
noncomputable section
namespace Mine
noncomputable def b_Cell_init : List LS := [
  .assignAttrs "self" ["sort", "number"] (.tup [(.var "sort"), (.var "number")]),
  .assignAttr (.var "self") "count" (.int 0),
  .assignAttr (.var "self") "slots" .dict0,
  .assignAttrs "self" ["colour", "is_buffered"] (.tup [(.str "black"), (.bool false)]),
  .assignAttrs "self" ["has_destructor", "is_destructed"] (.tup [(.bool false), (.bool false)]),
  .assignAttr (.var "self") "is_freed" (.bool false),
  .assignAttr (.var "self") "weak" .none]
noncomputable def b_Counted_init : List LS := [
  .assignAttr (.var "self") "cells" .dict0,
  .assignAttr (.var "self") "vars" .dict0,
  .assignAttr (.var "self") "log" (.list []),
  .assignAttr (.var "self") "last" (.int 0),
  .assignAttr (.var "self") "buffer" (.list []),
  .assignAttr (.var "self") "full" (.var "full"),
  .assignAttr (.var "self") "freed" (.int 0),
  .assignAttr (.var "self") "plan" .dict0,
  .assignAttr (.var "self") "tables" (.list [])]
noncomputable def b_new_cell : List LS := [
  .augAttr (.var "heap") "last" .add (.int 1),
  .assignIdx (.attr (.var "heap") "cells") (.attr (.var "heap") "last") (.call "Cell" [(.var "sort"), (.attr (.var "heap") "last")]),
  .ret (.tup [(.str "cell"), (.attr (.var "heap") "last")])]
noncomputable def b_cell_of : List LS := [
  .ret (.ite (.cmp .eq (.idx (.var "value") (.int 0)) (.str "cell")) (.meth (.attr (.var "heap") "cells") .get [(.idx (.var "value") (.int 1))]) .none)]
noncomputable def b_is_ref : List LS := [
  .assign "cell" (.call "cell_of" [(.var "heap"), (.var "value")]),
  .ret (.band [(.cmp .isNotNone (.var "cell") .none), (.cmp .eq (.attr (.var "cell") "sort") (.str "ref"))])]
noncomputable def b_inner : List LS := [
  .ret (.ite (.call "is_ref" [(.var "heap"), (.var "value")]) (.idx (.attr (.idx (.attr (.var "heap") "cells") (.idx (.var "value") (.int 1))) "slots") (.int 0)) (.var "value"))]
noncomputable def b_value_of : List LS := [
  .ret (.call "inner" [(.var "heap"), (.meth (.attr (.var "heap") "vars") .get [(.var "var"), (.tup [(.str "int"), (.int 0)])])])]
noncomputable def b_gain : List LS := [
  .assign "cell" (.call "cell_of" [(.var "heap"), (.var "value")]),
  .ifs (.cmp .isNotNone (.var "cell") .none) [
    .augAttr (.var "cell") "count" .add (.int 1)] [],
  .ret (.var "value")]
noncomputable def b_held_by : List LS := [
  .assign "found" (.comp (.idx (.attr (.var "table") "entries") (.attr (.var "cell") "number")) "table" .plain (.attr (.var "heap") "tables") [(.cmp .in_ (.attr (.var "cell") "number") (.attr (.var "table") "entries"))]),
  .for ["key"] .plain (.attr (.var "cell") "slots") [
    .expr (.meth (.var "found") .append [(.idx (.attr (.var "cell") "slots") (.var "key"))])],
  .ret (.var "found")]
noncomputable def b_replaced : List LS := [
  .assign "old" (.ite (.cmp .in_ (.var "key") (.var "slots")) (.list [(.idx (.var "slots") (.var "key"))]) (.list [])),
  .assignIdx (.var "slots") (.var "key") (.var "value"),
  .ret (.var "old")]
noncomputable def b_taken_out : List LS := [
  .ret (.ite (.cmp .in_ (.var "key") (.var "slots")) (.list [(.meth (.var "slots") .pop [(.var "key")])]) (.list []))]
noncomputable def b_written : List LS := [
  .ifs (.band [(.cmp .in_ (.var "key") (.var "slots")), (.call "is_ref" [(.var "heap"), (.idx (.var "slots") (.var "key"))])]) [
    .ret (.call "replaced" [(.attr (.idx (.attr (.var "heap") "cells") (.idx (.idx (.var "slots") (.var "key")) (.int 1))) "slots"), (.int 0), (.var "value")])] [],
  .ret (.call "replaced" [(.var "slots"), (.var "key"), (.var "value")])]
noncomputable def b_ref_in : List LS := [
  .assign "held" (.meth (.var "slots") .get [(.var "key"), (.tup [(.str "int"), (.int 0)])]),
  .ifs (.call "is_ref" [(.var "heap"), (.var "held")]) [
    .ret (.var "held")] [],
  .assign "made" (.call "new_cell" [(.var "heap"), (.str "ref")]),
  .assignIdx (.attr (.idx (.attr (.var "heap") "cells") (.idx (.var "made") (.int 1))) "slots") (.int 0) (.var "held"),
  .assignIdx (.var "slots") (.var "key") (.call "gain" [(.var "heap"), (.var "made")]),
  .ret (.var "made")]
noncomputable def b_in_copy : List LS := [
  .assign "held" (.call "cell_of" [(.var "heap"), (.var "value")]),
  .ifs (.bor [(.cmp .isNone (.var "held") .none), (.cmp .ne (.attr (.var "held") "sort") (.str "ref")), (.cmp .gt (.attr (.var "held") "count") (.int 1)), (.cmp .eq (.idx (.attr (.var "held") "slots") (.int 0)) (.tup [(.str "cell"), (.attr (.var "cell") "number")]))]) [
    .ret (.var "value")] [],
  .ret (.idx (.attr (.var "held") "slots") (.int 0))]
noncomputable def b_copied : List LS := [
  .assign "made" (.call "new_cell" [(.var "heap"), (.str "array")]),
  .expr (.meth (.attr (.var "heap") "log") .append [(.tup [(.str "copy"), (.attr (.var "cell") "number"), (.idx (.var "made") (.int 1))])]),
  .for ["key"] .plain (.attr (.var "cell") "slots") [
    .assignIdx (.attr (.idx (.attr (.var "heap") "cells") (.idx (.var "made") (.int 1))) "slots") (.var "key") (.call "gain" [(.var "heap"), (.call "in_copy" [(.var "heap"), (.var "cell"), (.idx (.attr (.var "cell") "slots") (.var "key"))])])],
  .ret (.var "made")]
noncomputable def b_has_elements : List LS := [
  .ret (.cmp .eq (.idx (.call "value_of" [(.var "heap"), (.var "var")]) (.int 0)) (.str "cell"))]
noncomputable def b_container : List LS := [
  .assign "cell" (.idx (.attr (.var "heap") "cells") (.idx (.call "value_of" [(.var "heap"), (.var "var")]) (.int 1))),
  .ifs (.bor [(.cmp .eq (.attr (.var "cell") "sort") (.str "object")), (.cmp .eq (.attr (.var "cell") "count") (.int 1))]) [
    .ret (.tup [(.var "cell"), (.list [])])] [],
  .assign "made" (.call "copied" [(.var "heap"), (.var "cell")]),
  .ret (.tup [(.idx (.attr (.var "heap") "cells") (.idx (.var "made") (.int 1))), (.call "written" [(.var "heap"), (.attr (.var "heap") "vars"), (.var "var"), (.call "gain" [(.var "heap"), (.var "made")])])])]
noncomputable def b_set_int : List LS := [
  .ret (.call "written" [(.var "heap"), (.attr (.var "heap") "vars"), (.var "var"), (.tup [(.str "int"), (.var "n")])])]
noncomputable def b_new_array : List LS := [
  .ret (.call "written" [(.var "heap"), (.attr (.var "heap") "vars"), (.var "var"), (.call "gain" [(.var "heap"), (.call "new_cell" [(.var "heap"), (.str "array")])])])]
noncomputable def b_new_object : List LS := [
  .assign "made" (.call "gain" [(.var "heap"), (.call "new_cell" [(.var "heap"), (.str "object")])]),
  .assignAttr (.idx (.attr (.var "heap") "cells") (.idx (.var "made") (.int 1))) "has_destructor" (.var "has_destructor"),
  .ret (.call "written" [(.var "heap"), (.attr (.var "heap") "vars"), (.var "var"), (.var "made")])]
noncomputable def b_assign : List LS := [
  .ret (.call "written" [(.var "heap"), (.attr (.var "heap") "vars"), (.var "var"), (.call "gain" [(.var "heap"), (.call "value_of" [(.var "heap"), (.var "other")])])])]
noncomputable def b_put : List LS := [
  .ifs (.not (.call "has_elements" [(.var "heap"), (.var "var")])) [
    .ret (.list [])] [],
  .assign "value" (.call "gain" [(.var "heap"), (.call "value_of" [(.var "heap"), (.var "other")])]),
  .assignTup ["cell", "losses"] (.call "container" [(.var "heap"), (.var "var")]),
  .ret (.bin .add (.var "losses") (.call "written" [(.var "heap"), (.attr (.var "cell") "slots"), (.var "key"), (.var "value")]))]
noncomputable def b_take : List LS := [
  .assign "value" (.tup [(.str "int"), (.int 0)]),
  .ifs (.call "has_elements" [(.var "heap"), (.var "other")]) [
    .assign "value" (.call "inner" [(.var "heap"), (.meth (.attr (.call "cell_of" [(.var "heap"), (.call "value_of" [(.var "heap"), (.var "other")])]) "slots") .get [(.var "key"), (.var "value")])])] [],
  .ret (.call "written" [(.var "heap"), (.attr (.var "heap") "vars"), (.var "var"), (.call "gain" [(.var "heap"), (.var "value")])])]
noncomputable def b_make_ref : List LS := [
  .ret (.call "replaced" [(.attr (.var "heap") "vars"), (.var "var"), (.call "gain" [(.var "heap"), (.call "ref_in" [(.var "heap"), (.attr (.var "heap") "vars"), (.var "other")])])])]
noncomputable def b_put_ref : List LS := [
  .ifs (.not (.call "has_elements" [(.var "heap"), (.var "var")])) [
    .ret (.list [])] [],
  .assign "value" (.call "gain" [(.var "heap"), (.call "ref_in" [(.var "heap"), (.attr (.var "heap") "vars"), (.var "other")])]),
  .assignTup ["cell", "losses"] (.call "container" [(.var "heap"), (.var "var")]),
  .ret (.bin .add (.var "losses") (.call "replaced" [(.attr (.var "cell") "slots"), (.var "key"), (.var "value")]))]
noncomputable def b_unset : List LS := [
  .ret (.call "taken_out" [(.attr (.var "heap") "vars"), (.var "var")])]
noncomputable def b_unset_at : List LS := [
  .ifs (.not (.call "has_elements" [(.var "heap"), (.var "var")])) [
    .ret (.list [])] [],
  .assignTup ["cell", "losses"] (.call "container" [(.var "heap"), (.var "var")]),
  .ret (.bin .add (.var "losses") (.call "taken_out" [(.attr (.var "cell") "slots"), (.var "key")]))]
noncomputable def b_change : List LS := [
  .ifs (.cmp .eq (.var "name") (.str "set_int")) [
    .ret (.call "set_int" [(.var "heap"), (.idx (.var "args") (.int 0)), (.idx (.var "args") (.int 1))])] [],
  .ifs (.cmp .eq (.var "name") (.str "new_array")) [
    .ret (.call "new_array" [(.var "heap"), (.idx (.var "args") (.int 0))])] [],
  .ifs (.cmp .eq (.var "name") (.str "new_object")) [
    .ret (.call "new_object" [(.var "heap"), (.idx (.var "args") (.int 0)), (.idx (.var "args") (.int 1))])] [],
  .ifs (.cmp .eq (.var "name") (.str "assign")) [
    .ret (.call "assign" [(.var "heap"), (.idx (.var "args") (.int 0)), (.idx (.var "args") (.int 1))])] [],
  .ifs (.cmp .eq (.var "name") (.str "put")) [
    .ret (.call "put" [(.var "heap"), (.idx (.var "args") (.int 0)), (.idx (.var "args") (.int 1)), (.idx (.var "args") (.int 2))])] [],
  .ifs (.cmp .eq (.var "name") (.str "take")) [
    .ret (.call "take" [(.var "heap"), (.idx (.var "args") (.int 0)), (.idx (.var "args") (.int 1)), (.idx (.var "args") (.int 2))])] [],
  .ifs (.cmp .eq (.var "name") (.str "make_ref")) [
    .ret (.call "make_ref" [(.var "heap"), (.idx (.var "args") (.int 0)), (.idx (.var "args") (.int 1))])] [],
  .ifs (.cmp .eq (.var "name") (.str "put_ref")) [
    .ret (.call "put_ref" [(.var "heap"), (.idx (.var "args") (.int 0)), (.idx (.var "args") (.int 1)), (.idx (.var "args") (.int 2))])] [],
  .ifs (.cmp .eq (.var "name") (.str "unset")) [
    .ret (.call "unset" [(.var "heap"), (.idx (.var "args") (.int 0))])] [],
  .ifs (.cmp .eq (.var "name") (.str "unset_at")) [
    .ret (.call "unset_at" [(.var "heap"), (.idx (.var "args") (.int 0)), (.idx (.var "args") (.int 1))])] [],
  .fail]
noncomputable def b_suspect : List LS := [
  .ifs (.cmp .eq (.attr (.var "cell") "sort") (.str "ref")) [
    .assign "cell" (.call "cell_of" [(.var "heap"), (.idx (.attr (.var "cell") "slots") (.int 0))])] [],
  .ifs (.band [(.cmp .isNotNone (.var "cell") .none), (.not (.attr (.var "cell") "is_buffered"))]) [
    .assignAttrs "cell" ["colour", "is_buffered"] (.tup [(.str "purple"), (.bool true)]),
    .expr (.meth (.attr (.var "heap") "buffer") .append [(.attr (.var "cell") "number")])] []]
noncomputable def b_cleared : List LS := [
  .assign "found" (.list []),
  .for ["table"] .plain (.attr (.var "heap") "tables") [
    .expr (.meth (.var "found") .extend [(.call "taken_out" [(.attr (.var "table") "entries"), (.var "number")])])],
  .ret (.var "found")]
noncomputable def b_free_cell : List LS := [
  .assign "losses" (.call "held_by" [(.var "heap"), (.var "cell")]),
  .expr (.call "cleared" [(.var "heap"), (.attr (.var "cell") "number")]),
  .assignAttr (.var "cell") "weak" .none,
  .assignAttr (.var "cell") "slots" .dict0,
  .ifs (.attr (.var "cell") "is_buffered") [
    .assignAttr (.var "cell") "is_buffered" (.bool false),
    .expr (.meth (.attr (.var "heap") "buffer") .remove [(.attr (.var "cell") "number")])] [],
  .assignAttr (.var "cell") "is_freed" (.bool true),
  .delIdx (.attr (.var "heap") "cells") (.attr (.var "cell") "number"),
  .augAttr (.var "heap") "freed" .add (.int 1),
  .expr (.meth (.attr (.var "heap") "log") .append [(.tup [(.str "free"), (.attr (.var "cell") "number")])]),
  .ret (.var "losses")]
noncomputable def b_wants_destructor : List LS := [
  .ret (.band [(.attr (.var "cell") "has_destructor"), (.not (.attr (.var "cell") "is_destructed"))])]
noncomputable def b_begin_destructor : List LS := [
  .assignAttr (.var "cell") "is_destructed" (.bool true),
  .expr (.meth (.attr (.var "heap") "log") .append [(.tup [(.str "destruct"), (.attr (.var "cell") "number")])]),
  .assignIdx (.attr (.var "heap") "vars") (.neg (.attr (.var "cell") "number")) (.call "gain" [(.var "heap"), (.tup [(.str "cell"), (.attr (.var "cell") "number")])]),
  .assign "tasks" (.list [(.tup [(.str "deed"), (.tup [(.str "unset"), (.tup [(.neg (.attr (.var "cell") "number"))])])])]),
  .for ["deed"] .rev (.meth (.attr (.var "heap") "plan") .get [(.attr (.var "cell") "number"), (.list [])]) [
    .expr (.meth (.var "tasks") .append [(.tup [(.str "deed"), (.var "deed")])])],
  .ret (.var "tasks")]
noncomputable def b_losing : List LS := [
  .ret (.comp (.tup [(.str "lose"), (.var "value")]) "value" .rev (.var "values") [])]
noncomputable def b_lose : List LS := [
  .assign "cell" (.call "cell_of" [(.var "heap"), (.var "value")]),
  .ifs (.cmp .isNone (.var "cell") .none) [
    .ret (.list [])] [],
  .augAttr (.var "cell") "count" .sub (.int 1),
  .ifs (.cmp .gt (.attr (.var "cell") "count") (.int 0)) [
    .expr (.call "suspect" [(.var "heap"), (.var "cell")]),
    .ret (.list [])] [],
  .ifs (.call "wants_destructor" [(.var "cell")]) [
    .ret (.call "begin_destructor" [(.var "heap"), (.var "cell")])] [],
  .ret (.call "losing" [(.call "free_cell" [(.var "heap"), (.var "cell")])])]
noncomputable def b_settle : List LS := [
  .while (.var "tasks") [
    .assignTup ["sort", "what"] (.meth (.var "tasks") .pop []),
    .ifs (.cmp .eq (.var "sort") (.str "lose")) [
      .expr (.meth (.var "tasks") .extend [(.call "lose" [(.var "heap"), (.var "what")])])] [
      .expr (.meth (.var "tasks") .extend [(.call "losing" [(.call "change" [(.var "heap"), (.idx (.var "what") (.int 0)), (.idx (.var "what") (.int 1))])])])]]]
noncomputable def b_do_deed : List LS := [
  .expr (.call "settle" [(.var "heap"), (.list [(.tup [(.str "deed"), (.var "deed")])])])]
noncomputable def b_all_held : List LS := [
  .assign "found" (.comp (.idx (.attr (.var "heap") "vars") (.var "var")) "var" .plain (.attr (.var "heap") "vars") []),
  .for ["number"] .plain (.attr (.var "heap") "cells") [
    .assign "cell" (.idx (.attr (.var "heap") "cells") (.var "number")),
    .for ["key"] .plain (.attr (.var "cell") "slots") [
      .expr (.meth (.var "found") .append [(.idx (.attr (.var "cell") "slots") (.var "key"))])]],
  .for ["table"] .plain (.attr (.var "heap") "tables") [
    .for ["number"] .plain (.attr (.var "table") "entries") [
      .expr (.meth (.var "found") .append [(.idx (.attr (.var "table") "entries") (.var "number"))])]],
  .ret (.var "found")]
noncomputable def b_counts_right : List LS := [
  .assign "counts" .dict0,
  .for ["number"] .plain (.attr (.var "heap") "cells") [
    .assignIdx (.var "counts") (.var "number") (.int 0)],
  .for ["value"] .plain (.call "all_held" [(.var "heap")]) [
    .ifs (.cmp .eq (.idx (.var "value") (.int 0)) (.str "cell")) [
      .ifs (.cmp .notIn (.idx (.var "value") (.int 1)) (.var "counts")) [
        .ret (.bool false)] [],
      .augIdx (.var "counts") (.idx (.var "value") (.int 1)) .add (.int 1)] []],
  .for ["number"] .plain (.var "counts") [
    .ifs (.cmp .ne (.attr (.idx (.attr (.var "heap") "cells") (.var "number")) "count") (.idx (.var "counts") (.var "number"))) [
      .ret (.bool false)] []],
  .ret (.bool true)]
noncomputable def b_children : List LS := [
  .ret (.comp (.idx (.attr (.var "heap") "cells") (.idx (.var "value") (.int 1))) "value" .plain (.call "held_by" [(.var "heap"), (.var "cell")]) [(.cmp .eq (.idx (.var "value") (.int 0)) (.str "cell"))])]
noncomputable def b_mark_grey : List LS := [
  .assign "waiting" (.list [(.var "cell")]),
  .while (.var "waiting") [
    .assign "here" (.meth (.var "waiting") .pop []),
    .ifs (.cmp .ne (.attr (.var "here") "colour") (.str "grey")) [
      .assignAttr (.var "here") "colour" (.str "grey"),
      .for ["child"] .plain (.call "children" [(.var "heap"), (.var "here")]) [
        .augAttr (.var "child") "count" .sub (.int 1),
        .expr (.meth (.var "waiting") .append [(.var "child")])]] []]]
noncomputable def b_scan_black : List LS := [
  .assignAttr (.var "cell") "colour" (.str "black"),
  .assign "waiting" (.list [(.var "cell")]),
  .while (.var "waiting") [
    .for ["child"] .plain (.call "children" [(.var "heap"), (.meth (.var "waiting") .pop [])]) [
      .augAttr (.var "child") "count" .add (.int 1),
      .ifs (.cmp .ne (.attr (.var "child") "colour") (.str "black")) [
        .assignAttr (.var "child") "colour" (.str "black"),
        .expr (.meth (.var "waiting") .append [(.var "child")])] []]]]
noncomputable def b_scan : List LS := [
  .assign "waiting" (.list [(.var "cell")]),
  .while (.var "waiting") [
    .assign "here" (.meth (.var "waiting") .pop []),
    .ifs (.cmp .eq (.attr (.var "here") "colour") (.str "grey")) [
      .ifs (.cmp .gt (.attr (.var "here") "count") (.int 0)) [
        .expr (.call "scan_black" [(.var "heap"), (.var "here")])] [
        .assignAttr (.var "here") "colour" (.str "white"),
        .expr (.meth (.var "waiting") .extend [(.call "children" [(.var "heap"), (.var "here")])])]] []]]
noncomputable def b_gather : List LS := [
  .assign "found" (.list []),
  .assign "waiting" (.blt .list (.var "cells")),
  .while (.var "waiting") [
    .assign "here" (.meth (.var "waiting") .pop []),
    .ifs (.cmp .eq (.attr (.var "here") "colour") (.str "white")) [
      .assignAttr (.var "here") "colour" (.str "black"),
      .expr (.meth (.var "found") .append [(.attr (.var "here") "number")]),
      .for ["child"] .plain (.call "children" [(.var "heap"), (.var "here")]) [
        .augAttr (.var "child") "count" .add (.int 1),
        .expr (.meth (.var "waiting") .append [(.var "child")])]] []],
  .ret (.blt .sorted (.var "found"))]
noncomputable def b_find_rings : List LS := [
  .assign "suspects" (.comp (.idx (.attr (.var "heap") "cells") (.var "number")) "number" .plain (.attr (.var "heap") "buffer") []),
  .assignAttr (.var "heap") "buffer" (.list []),
  .for ["cell"] .plain (.var "suspects") [
    .assignAttr (.var "cell") "is_buffered" (.bool false)],
  .for ["cell"] .plain (.var "suspects") [
    .expr (.call "mark_grey" [(.var "heap"), (.var "cell")])],
  .for ["cell"] .plain (.var "suspects") [
    .expr (.call "scan" [(.var "heap"), (.var "cell")])],
  .ret (.call "gather" [(.var "heap"), (.var "suspects")])]
noncomputable def b_run_destructors : List LS := [
  .for ["number"] .plain (.var "numbers") [
    .augAttr (.idx (.attr (.var "heap") "cells") (.var "number")) "count" .add (.int 1)],
  .for ["number"] .plain (.var "numbers") [
    .expr (.call "settle" [(.var "heap"), (.call "begin_destructor" [(.var "heap"), (.idx (.attr (.var "heap") "cells") (.var "number"))])])],
  .for ["number"] .plain (.var "numbers") [
    .augAttr (.idx (.attr (.var "heap") "cells") (.var "number")) "count" .sub (.int 1)]]
noncomputable def b_still_held : List LS := [
  .assign "inside" .dict0,
  .for ["number"] .plain (.var "numbers") [
    .assignIdx (.var "inside") (.var "number") (.int 0)],
  .for ["number"] .plain (.var "numbers") [
    .for ["child"] .plain (.call "children" [(.var "heap"), (.idx (.attr (.var "heap") "cells") (.var "number"))]) [
      .ifs (.cmp .in_ (.attr (.var "child") "number") (.var "inside")) [
        .augIdx (.var "inside") (.attr (.var "child") "number") .add (.int 1)] []]],
  .assign "staying" .dict0,
  .assign "waiting" (.comp (.var "number") "number" .plain (.var "numbers") [(.cmp .gt (.attr (.idx (.attr (.var "heap") "cells") (.var "number")) "count") (.idx (.var "inside") (.var "number")))]),
  .while (.var "waiting") [
    .assign "number" (.meth (.var "waiting") .pop []),
    .ifs (.band [(.cmp .in_ (.var "number") (.var "inside")), (.cmp .notIn (.var "number") (.var "staying"))]) [
      .assignIdx (.var "staying") (.var "number") (.bool true),
      .for ["child"] .plain (.call "children" [(.var "heap"), (.idx (.attr (.var "heap") "cells") (.var "number"))]) [
        .expr (.meth (.var "waiting") .append [(.attr (.var "child") "number")])]] []],
  .ret (.var "staying")]
noncomputable def b_without_held : List LS := [
  .assign "living" (.comp (.var "number") "number" .plain (.var "numbers") [(.cmp .in_ (.var "number") (.attr (.var "heap") "cells"))]),
  .assign "staying" (.call "still_held" [(.var "heap"), (.var "living")]),
  .ret (.comp (.var "number") "number" .plain (.var "living") [(.cmp .notIn (.var "number") (.var "staying"))])]
noncomputable def b_free_all : List LS := [
  .assign "losses" (.list []),
  .for ["number"] .plain (.var "numbers") [
    .expr (.meth (.var "losses") .extend [(.call "free_cell" [(.var "heap"), (.idx (.attr (.var "heap") "cells") (.var "number"))])])],
  .expr (.call "settle" [(.var "heap"), (.call "losing" [(.var "losses")])])]
noncomputable def b_turn : List LS := [
  .assign "white" (.call "find_rings" [(.var "heap")]),
  .assign "waiting" (.comp (.var "number") "number" .plain (.var "white") [(.call "wants_destructor" [(.idx (.attr (.var "heap") "cells") (.var "number"))])]),
  .ifs (.var "waiting") [
    .expr (.call "run_destructors" [(.var "heap"), (.var "waiting")]),
    .assign "white" (.call "without_held" [(.var "heap"), (.var "white")])] [],
  .expr (.call "free_all" [(.var "heap"), (.var "white")])]
noncomputable def b_collect : List LS := [
  .assign "before" (.attr (.var "heap") "freed"),
  .while (.attr (.var "heap") "buffer") [
    .expr (.call "turn" [(.var "heap")])],
  .ret (.bin .sub (.attr (.var "heap") "freed") (.var "before"))]
noncomputable def b_reachable : List LS := [
  .assign "found" .dict0,
  .assign "waiting" (.comp (.idx (.attr (.var "heap") "vars") (.var "var")) "var" .plain (.attr (.var "heap") "vars") []),
  .while (.var "waiting") [
    .assign "value" (.meth (.var "waiting") .pop []),
    .ifs (.band [(.cmp .eq (.idx (.var "value") (.int 0)) (.str "cell")), (.cmp .notIn (.idx (.var "value") (.int 1)) (.var "found"))]) [
      .assignIdx (.var "found") (.idx (.var "value") (.int 1)) (.bool true),
      .expr (.meth (.var "waiting") .extend [(.call "held_by" [(.var "heap"), (.idx (.attr (.var "heap") "cells") (.idx (.var "value") (.int 1)))])])] []],
  .ret (.var "found")]
noncomputable def b_plain_collect : List LS := [
  .assign "found" (.call "reachable" [(.var "heap")]),
  .ret (.blt .sorted (.comp (.var "number") "number" .plain (.attr (.var "heap") "cells") [(.cmp .notIn (.var "number") (.var "found"))]))]
noncomputable def b_law_told : List LS := [
  .ret (.list [(.int 1), (.int 11), (.int 21), (.int 54), (.int 14), (.int 354), (.int 8), (.int 18), (.int 501), (.int 4), (.int 8), (.int 5032), (.int 10), (.int 66), (.int 18), (.int 143)])]
noncomputable def b_law_deed : List LS := [
  .assignTup ["way", "a", "b", "key", "n"] (.tup [(.bin .mod (.var "x") (.int 10)), (.bin .mod (.bin .fdiv (.var "x") (.int 10)) (.int 5)), (.bin .mod (.bin .fdiv (.var "x") (.int 50)) (.int 5)), (.bin .mod (.bin .fdiv (.var "x") (.int 250)) (.int 2)), (.bin .fdiv (.var "x") (.int 500))]),
  .assign "rows" (.list [(.tup [(.str "new_array"), (.tup [(.var "a")])]), (.tup [(.str "new_object"), (.tup [(.var "a"), (.cmp .eq (.bin .mod (.var "n") (.int 3)) (.int 1))])]), (.tup [(.str "set_int"), (.tup [(.var "a"), (.bin .mod (.var "n") (.int 9))])]), (.tup [(.str "assign"), (.tup [(.var "a"), (.var "b")])]), (.tup [(.str "put"), (.tup [(.var "a"), (.var "key"), (.var "b")])]), (.tup [(.str "put"), (.tup [(.var "a"), (.var "key"), (.var "b")])]), (.tup [(.str "put_ref"), (.tup [(.var "a"), (.var "key"), (.var "b")])]), (.tup [(.str "make_ref"), (.tup [(.var "a"), (.var "b")])]), (.tup [(.str "unset"), (.tup [(.var "a")])]), (.tup [(.str "unset_at"), (.tup [(.var "a"), (.var "key")])])]),
  .ret (.idx (.var "rows") (.var "way"))]
noncomputable def b_law_reached : List LS := [
  .assign "line" (.blt .listValues (.attr (.var "heap") "vars")),
  .assign "seen" .dict0,
  .while (.cmp .ne (.var "line") (.list [])) [
    .assign "value" (.meth (.var "line") .pop []),
    .ifs (.band [(.cmp .eq (.idx (.var "value") (.int 0)) (.str "cell")), (.cmp .notIn (.idx (.var "value") (.int 1)) (.var "seen"))]) [
      .assignIdx (.var "seen") (.idx (.var "value") (.int 1)) (.bool true),
      .expr (.meth (.var "line") .extend [(.blt .listValues (.attr (.idx (.attr (.var "heap") "cells") (.idx (.var "value") (.int 1))) "slots"))])] []],
  .ret (.blt .sorted (.var "seen"))]
noncomputable def b_law_picture : List LS := [
  .ret (.comp (.tup [(.var "number"), (.attr (.idx (.attr (.var "heap") "cells") (.var "number")) "sort"), (.blt .listItems (.attr (.idx (.attr (.var "heap") "cells") (.var "number")) "slots"))]) "number" .plain (.var "numbers") [])]
noncomputable def b_law_collected : List LS := [
  .assign "here" (.call "_law_reached" [(.var "heap")]),
  .assign "gone" (.comp (.var "number") "number" .plain (.blt .sorted (.attr (.var "heap") "cells")) [(.cmp .notIn (.var "number") (.var "here"))]),
  .assign "due" (.comp (.var "number") "number" .plain (.var "gone") [(.band [(.attr (.idx (.attr (.var "heap") "cells") (.var "number")) "has_destructor"), (.not (.attr (.idx (.attr (.var "heap") "cells") (.var "number")) "is_destructed"))])]),
  .assignTup ["before", "variables", "many"] (.tup [(.call "_law_picture" [(.var "heap"), (.var "here")]), (.blt .listItems (.attr (.var "heap") "vars")), (.blt .len (.attr (.var "heap") "log"))]),
  .ifs (.bor [(.cmp .ne (.blt .sorted (.call "reachable" [(.var "heap")])) (.var "here")), (.cmp .ne (.call "plain_collect" [(.var "heap")]) (.var "gone"))]) [
    .ret (.bool false)] [],
  .ifs (.cmp .ne (.call "collect" [(.var "heap")]) (.blt .len (.var "gone"))) [
    .ret (.bool false)] [],
  .ifs (.cmp .ne (.sliceFrom (.attr (.var "heap") "log") (.var "many")) (.bin .add (.comp (.tup [(.str "destruct"), (.var "number")]) "number" .plain (.var "due") []) (.comp (.tup [(.str "free"), (.var "number")]) "number" .plain (.var "gone") []))) [
    .ret (.bool false)] [],
  .ifs (.bor [(.cmp .ne (.blt .sorted (.attr (.var "heap") "cells")) (.var "here")), (.cmp .ne (.call "_law_picture" [(.var "heap"), (.var "here")]) (.var "before")), (.cmp .ne (.blt .listItems (.attr (.var "heap") "vars")) (.var "variables"))]) [
    .ret (.bool false)] [],
  .ifs (.bor [(.not (.call "counts_right" [(.var "heap")])), (.cmp .ne (.attr (.var "heap") "buffer") (.list [])), (.cmp .ne (.comp (.var "cell") "cell" .values (.attr (.var "heap") "cells") [(.bor [(.cmp .ne (.attr (.var "cell") "colour") (.str "black")), (.attr (.var "cell") "is_buffered")])]) (.list []))]) [
    .ret (.bool false)] [],
  .ret (.band [(.cmp .eq (.call "collect" [(.var "heap")]) (.int 0)), (.cmp .eq (.blt .len (.attr (.var "heap") "log")) (.bin .add (.bin .add (.var "many") (.blt .len (.var "due"))) (.blt .len (.var "gone"))))])]
noncomputable def b_law : List LS := [
  .assign "script" (.sliceTo (.var "script") (.int 63)),
  .assign "heap" (.call "Counted" [(.int 1000)]),
  .for ["k", "told_one"] .enum (.call "_law_told" []) [
    .assign "x" (.bin .add (.var "told_one") (.ite (.cmp .lt (.var "k") (.blt .len (.var "script"))) (.idx (.var "script") (.var "k")) (.int 0))),
    .expr (.call "do_deed" [(.var "heap"), (.call "_law_deed" [(.var "x")])]),
    .ifs (.bor [(.not (.call "counts_right" [(.var "heap")])), (.band [(.cmp .eq (.bin .mod (.bin .fdiv (.var "x") (.int 1000)) (.int 6)) (.int 5)), (.not (.call "_law_collected" [(.var "heap")]))])]) [
      .ret (.bool false)] []],
  .ifs (.not (.call "_law_collected" [(.var "heap")])) [
    .ret (.bool false)] [],
  .assign "freed" (.comp (.idx (.var "row") (.int 1)) "row" .plain (.attr (.var "heap") "log") [(.cmp .eq (.idx (.var "row") (.int 0)) (.str "free"))]),
  .ifs (.bor [(.cmp .ne (.blt .len (.var "freed")) (.blt .lenSet (.var "freed"))), (.cmp .ne (.attr (.var "heap") "freed") (.blt .len (.var "freed")))]) [
    .ret (.bool false)] [],
  .for ["var"] .range (.int 5) [
    .expr (.call "do_deed" [(.var "heap"), (.tup [(.str "unset"), (.tup [(.var "var")])])])],
  .ret (.band [(.call "_law_collected" [(.var "heap")]), (.blt .isEmpty (.attr (.var "heap") "cells")), (.blt .isEmpty (.attr (.var "heap") "vars"))])]
end Mine
end
noncomputable section
namespace Mine
noncomputable def tabL : List (String × Def) := [
  ("Cell", .cls .cell ["self", "sort", "number"] b_Cell_init),
  ("Counted", .cls .counted ["self", "full"] b_Counted_init),
  ("new_cell", .fn ["heap", "sort"] b_new_cell),
  ("cell_of", .fn ["heap", "value"] b_cell_of),
  ("is_ref", .fn ["heap", "value"] b_is_ref),
  ("inner", .fn ["heap", "value"] b_inner),
  ("value_of", .fn ["heap", "var"] b_value_of),
  ("gain", .fn ["heap", "value"] b_gain),
  ("held_by", .fn ["heap", "cell"] b_held_by),
  ("replaced", .fn ["slots", "key", "value"] b_replaced),
  ("taken_out", .fn ["slots", "key"] b_taken_out),
  ("written", .fn ["heap", "slots", "key", "value"] b_written),
  ("ref_in", .fn ["heap", "slots", "key"] b_ref_in),
  ("in_copy", .fn ["heap", "cell", "value"] b_in_copy),
  ("copied", .fn ["heap", "cell"] b_copied),
  ("has_elements", .fn ["heap", "var"] b_has_elements),
  ("container", .fn ["heap", "var"] b_container),
  ("set_int", .fn ["heap", "var", "n"] b_set_int),
  ("new_array", .fn ["heap", "var"] b_new_array),
  ("new_object", .fn ["heap", "var", "has_destructor"] b_new_object),
  ("assign", .fn ["heap", "var", "other"] b_assign),
  ("put", .fn ["heap", "var", "key", "other"] b_put),
  ("take", .fn ["heap", "var", "other", "key"] b_take),
  ("make_ref", .fn ["heap", "var", "other"] b_make_ref),
  ("put_ref", .fn ["heap", "var", "key", "other"] b_put_ref),
  ("unset", .fn ["heap", "var"] b_unset),
  ("unset_at", .fn ["heap", "var", "key"] b_unset_at),
  ("change", .fn ["heap", "name", "args"] b_change),
  ("suspect", .fn ["heap", "cell"] b_suspect),
  ("cleared", .fn ["heap", "number"] b_cleared),
  ("free_cell", .fn ["heap", "cell"] b_free_cell),
  ("wants_destructor", .fn ["cell"] b_wants_destructor),
  ("begin_destructor", .fn ["heap", "cell"] b_begin_destructor),
  ("losing", .fn ["values"] b_losing),
  ("lose", .fn ["heap", "value"] b_lose),
  ("settle", .fn ["heap", "tasks"] b_settle),
  ("do_deed", .fn ["heap", "deed"] b_do_deed),
  ("all_held", .fn ["heap"] b_all_held),
  ("counts_right", .fn ["heap"] b_counts_right),
  ("children", .fn ["heap", "cell"] b_children),
  ("mark_grey", .fn ["heap", "cell"] b_mark_grey),
  ("scan_black", .fn ["heap", "cell"] b_scan_black),
  ("scan", .fn ["heap", "cell"] b_scan),
  ("gather", .fn ["heap", "cells"] b_gather),
  ("find_rings", .fn ["heap"] b_find_rings),
  ("run_destructors", .fn ["heap", "numbers"] b_run_destructors),
  ("still_held", .fn ["heap", "numbers"] b_still_held),
  ("without_held", .fn ["heap", "numbers"] b_without_held),
  ("free_all", .fn ["heap", "numbers"] b_free_all),
  ("turn", .fn ["heap"] b_turn),
  ("collect", .fn ["heap"] b_collect),
  ("reachable", .fn ["heap"] b_reachable),
  ("plain_collect", .fn ["heap"] b_plain_collect),
  ("_law_told", .fn [] b_law_told),
  ("_law_deed", .fn ["x"] b_law_deed),
  ("_law_reached", .fn ["heap"] b_law_reached),
  ("_law_picture", .fn ["heap", "numbers"] b_law_picture),
  ("_law_collected", .fn ["heap"] b_law_collected)]
noncomputable def tab : Tab := fun f => tabL.lookup f
end Mine
end
noncomputable section
open PySem PySem.W PyProof.Rows
set_option maxRecDepth 100000
namespace Mine
noncomputable def caddrT : Cls → Addr
  | .counted => 84
  | .cell => 63
noncomputable def funcIs (f : FuncData → Bool) (o : Option Obj) : Bool := match o with
  | some o => (match o.data with
    | .func fd => f fd
    | _ => false)
  | none => false
noncomputable def chkFn (K : Frag) (v : Option (Option Value)) (ps : List String) (b : List LS) : Bool := match v with
  | some (some (.ref a)) => funcIs (fun fd => fnOk K fd ps b) (K.lookup a)
  | _ => false
noncomputable def initIs (K : Frag) (ps : List String) (b : List LS) (r : Option (Option Value)) : Bool := match r with
  | some r => chkFn K (some r) ps b && (match r with
    | some v => typeIn K v == some (.type "function")
    | none => false)
  | none => false
noncomputable def chk (K : Frag) (f : String) : Bool := match tab f with
  | some (.fn ps b) => chkFn K (nsIn K mainGlobals (Str.ofString f)) ps b
  | some (.cls c ps b) => nsIn K mainGlobals (Str.ofString f) == some (some (.ref (caddrT c))) && initIs K ps b (findIn K (.ref (caddrT c)) "__init__")
  | none => false
noncomputable def chkKeep (K : Frag) (f : String) : Bool := match nsIn K mainGlobals (Str.ofString f) with
  | some (some v) => keepIn K v
  | _ => false
noncomputable def chkNone (K : Frag) (f : String) : Bool := match nsIn K mainGlobals (Str.ofString f) with
  | some none => true
  | _ => false
noncomputable def chkCls (K : Frag) (c : Cls) : Bool := plainGet K (caddrT c) (Str.ofString "") && hasDictIn K (caddrT c) && plainOver K (caddrT c) && makesIn K (caddrT c) &&
    findIn K (.ref (caddrT c)) "__setattr__" == some (some (.builtin "object.__setattr__")) && allAttrs.all (fun x => findIn K (.ref (caddrT c)) (Str.ofString x) == some none)
noncomputable def chkAll (K : Frag) : Bool := (fnNames.all (chk K) && fnNames.all (chkKeep K)) && (["len", "list", "sorted", "set", "reversed", "enumerate", "range"].all (chkNone K) && [Cls.counted, Cls.cell].all (chkCls K))
theorem chkAll_and {K : Frag} (h : chkAll K = true) : (fnNames.all (chk K) = true ∧ fnNames.all (chkKeep K) = true) ∧ (["len", "list", "sorted", "set", "reversed", "enumerate", "range"].all (chkNone K) = true ∧ [Cls.counted, Cls.cell].all (chkCls K) = true) := by
  unfold chkAll at h
  rw [Bool.and_eq_true, Bool.and_eq_true, Bool.and_eq_true] at h
  exact h
noncomputable def asL : List Nat := [2, 3, 15, 22, 24, 25, 27, 28, 29, 30, 31, 32, 35, 42, 43, 44, 54, 56, 57, 59, 60, 61, 62, 63, 64, 65, 75, 77, 78,
      80, 81, 82, 83, 84, 85, 86, 89, 91, 92, 94, 95, 96, 98, 99, 101, 102, 103, 105, 106, 108, 109, 110, 112, 113, 115,
      116, 117, 119, 120, 122, 123, 124, 126, 127, 129, 130, 131, 134, 135, 136, 138, 139, 141, 142, 143, 145, 146, 148,
      149, 150, 152, 153, 155, 156, 157, 159, 160, 162, 163, 164, 166, 167, 169, 170, 171, 173, 174, 176, 177, 178, 180,
      181, 183, 184, 185, 187, 188, 190, 191, 192, 194, 195, 197, 198, 199, 201, 202, 204, 205, 206, 208, 209, 211, 212,
      213, 215, 216, 218, 219, 220, 222, 223, 225, 226, 227, 229, 230, 232, 233, 234, 236, 237, 239, 240, 241, 243, 244,
      246, 247, 248, 250, 251, 253, 254, 255, 257, 258, 260, 261, 262, 264, 265, 267, 268, 269, 271, 272, 274, 275, 276,
      278, 279, 281, 282, 283, 285, 286, 288, 289, 290, 292, 293, 295, 296, 297, 299, 300, 302, 303, 304, 307, 308, 309,
      311, 312, 314, 315, 316, 318, 319, 321, 322, 323, 325, 326, 328, 329, 330, 333, 334, 335, 337, 338, 340, 341, 342,
      345, 346, 347, 349, 350, 352, 353, 354, 356, 357, 359, 360, 361, 363, 364, 366, 367, 368, 370, 371, 373, 374, 375,
      378, 379, 380, 382, 383, 385, 386, 387, 390, 391, 392, 395, 396, 397, 399, 400, 402, 403, 404, 407, 408, 409, 411,
      412, 414, 415, 416, 419, 420, 421, 424, 425, 426, 428, 429, 431, 432, 433, 435, 436, 438, 439, 440, 442, 443, 445,
      446, 447, 450, 451, 452, 455, 456, 457, 460, 461]
noncomputable def fragFrom (h : Heap) : List Nat → Frag
  | [] => []
  | a :: r => match h.get? a with
    | some o => (a, o) :: fragFrom h r
    | none => fragFrom h r
theorem fragFrom_in (h : Heap) : ∀ l : List Nat, Frag.In (fragFrom h l) h
  | [], a, o, e => nomatch e
  | b :: r, a, o, e => by
    unfold fragFrom at e
    cases hb : h.get? b with
    | none => rw [hb] at e; exact fragFrom_in h r a o e
    | some o' =>
      rw [hb] at e
      have e' : List.lookup a ((b, o') :: fragFrom h r) = some o := e
      rw [List.lookup_cons] at e'
      by_cases q : a = b
      · subst q
        have : (a == a) = true := by simp
        rw [this] at e'
        rw [hb]; exact e'
      · have : (a == b) = false := by simpa using q
        rw [this] at e'
        exact fragFrom_in h r a o e'
noncomputable def hk : Hook := ⟨Bool, fun s => chkAll (fragFrom s.heap asL), fun _ => true, fun _ h => ∃ K : Frag, K.In h ∧ chkAll K = true, fun _ s e => ⟨_, fragFrom_in s.heap asL, e⟩, fun _ _ _ ⟨K, a, e⟩ kp => ⟨K, a.keeps kp, e⟩⟩
theorem left_of {p q : Program} {loose : List Str} {Xt : Shared → Bool} {α : Type} {Yf : Shared → α} {Ya : World → α} {N : Nat} {g0 : Bool} {H₀ : Params → Heap} {gs₀ : Array GenState} {d₀ : Drawn} {k₀ : Nat} {m₀ : Nat} {ann : Option Value} {M : Nat}
    (open_ : ∀ w : World, (fencedOpening treeTable p w N).map (fun s => (s.heap, s.gens, s.drawn, s.toks)) = some (H₀ w.params, gs₀, d₀, k₀))
    (size : ∀ w : World, ((H₀ w.params).isNs mainGlobals && gs₀.size == 0, (H₀ w.params).objs.size, (H₀ w.params).nsMap mainGlobals "__annotations__") = (true, m₀, ann))
    (run : ∀ (w : World) (os : OsState), (topRun treeTable p w m₀ ann M ⟨H₀ w.params, gs₀, d₀, k₀, os⟩ (topStub p)).map (fun s => ((staticsOk (importedModules p.main.body) (H₀ w.params) s.heap && namesBound p s.heap && gensDone s && laidKept (H₀ w.params) s.heap), openSeen q loose (importedModules p.main.body) Xt g0 s, Yf s)) = some (true, openGood q loose, Ya w)) (le : Nat.ble M N = true) : LeftO p q loose Xt Yf Ya N g0 := fun w => by
  obtain ⟨⟨h, gs, d, k, os⟩, e, e'⟩ := Option.map_eq_some_iff.mp (open_ w)
  obtain ⟨rfl, rfl, rfl, rfl⟩ : h = H₀ w.params ∧ gs = gs₀ ∧ d = d₀ ∧ k = k₀ := by simpa using e'
  obtain ⟨z1, z2, z3⟩ : _ ∧ _ ∧ _ := by simpa only [Prod.mk.injEq] using size w
  obtain ⟨s₁, r0, l⟩ := Option.map_eq_some_iff.mp (run w os)
  obtain ⟨l1, l2, l3⟩ : _ ∧ _ ∧ _ := by simpa only [Prod.mk.injEq] using l
  have r := topRun_mono (N - M) _ _ _ _ r0
  rw [show M + (N - M) = N by have := Nat.le_of_ble_eq_true le; omega] at r
  have t : topFrom treeTable p w N ⟨H₀ w.params, gs, d, k, os⟩ = some s₁ := by
    unfold topFrom
    dsimp only
    rw [z1, z2, z3, r]
    show (match staticsOk (importedModules p.main.body) (H₀ w.params) s₁.heap && namesBound p s₁.heap && gensDone s₁ && laidKept (H₀ w.params) s₁.heap with | true => _ | false => _) = _
    rw [l1]
  unfold openEnds
  rw [e]
  show (topFrom treeTable p w N _).map _ = _
  rw [t]
  exact congrArg some (Prod.ext l2 l3)
noncomputable abbrev theP : Program := PySem.Challenge.rw_pf0211_01.row.toRowW.1
noncomputable def keepL : List Nat := (List.range 65).filter fun i => !(i == 0 || i == 3 || i == 43 || i == 58)
noncomputable def theV : Program := view theP keepL
noncomputable abbrev theX (s : Shared) : Bool := xlAt theV [] s && recOk PySem.Challenge.rw_pf0211_01.row.records s
noncomputable abbrev theRun (w : World) (os : OsState) : Option Shared := topRun treeTable theP w 11 (some (Value.ref 6)) 2700 ⟨boot_heap w.params, Array.mk [], boot_drawn, boot_toks, os⟩ (topStub theP)
theorem run1 (w : World) (os : OsState) : (theRun w os).map (fun s => staticsOk (importedModules theP.main.body) (boot_heap w.params) s.heap && namesBound theP s.heap && gensDone s && laidKept (boot_heap w.params) s.heap) = some true := by
  show Option.map _ (topRun _ _ _ _ _ _ _ _) = _
  rw [PySem.W.Fast.te14082659384304107361, PySem.W.Fast.te14364793385576792824, PySem.W.Fast.te5923862056798008813]
  kernel_rfl
theorem run2 (w : World) (os : OsState) : (theRun w os).map (fun s => openSeen theV [] (importedModules theP.main.body) theX true s) = some (openGood theV []) := by
  show Option.map _ (topRun _ _ _ _ _ _ _ _) = _
  rw [PySem.W.Fast.te14082659384304107361, PySem.W.Fast.te14364793385576792824, PySem.W.Fast.te5923862056798008813, PySem.W.Fast.te4187177175401517315]
  kernel_rfl
theorem run3 (w : World) (os : OsState) : (theRun w os).map (fun s => chkAll (fragFrom s.heap asL)) = some true := by
  show Option.map _ (topRun _ _ _ _ _ _ _ _) = _
  rw [PySem.W.Fast.te14082659384304107361, PySem.W.Fast.te14364793385576792824]
  kernel_rfl
theorem run_all (w : World) (os : OsState) : (theRun w os).map (fun s => ((staticsOk (importedModules theP.main.body) (boot_heap w.params) s.heap && namesBound theP s.heap && gensDone s && laidKept (boot_heap w.params) s.heap), openSeen theV [] (importedModules theP.main.body) theX true s, hk.obs s)) = some (true, openGood theV [], hk.val w) := by
  have h1 := run1 w os
  have h2 := run2 w os
  have h3 := run3 w os
  obtain ⟨s, e, l1⟩ := Option.map_eq_some_iff.mp h1
  rw [e] at h2 h3 ⊢
  have l2 := Option.some.inj h2
  have l3 := Option.some.inj h3
  exact congrArg some (Prod.ext l1 (Prod.ext l2 l3))
theorem left_ok : LeftO theP theV [] theX hk.obs hk.val 5450 :=
  left_of (boot_open (p := theP) (N := 5450) (by kernel_rfl) (by decide +kernel) (fun s => by kernel_rfl)) (fun w => by kernel_rfl) run_all (by decide +kernel)
end Mine
end
noncomputable section
open PySem PySem.W PyProof.Rows
set_option maxRecDepth 100000
namespace Mine
noncomputable def H0 : Hp := fun _ => none
noncomputable def lawRest : List LS := b_law.tail
noncomputable def LawOk : Prop := ∀ ns : List Int, ns.length ≤ 63 →
  wpSs (callP tab 30) lawRest (Env.upd (fun _ => none) "script" (.obj (.loc 0))) (fun fl _ _ => fl = .ret (.bool true)) (H0.set (.loc 0) (.list (ns.map V.int)))
theorem all_of {α : Type} {l : List α} {p : α → Bool} (h : l.all p = true) {x : α} (hx : x ∈ l) : p x = true := List.all_eq_true.mp h x hx
theorem chkCls_of {K : Frag} {c : Cls} (h : chkCls K c = true) : plainGet K (caddrT c) (Str.ofString "") = true ∧ hasDictIn K (caddrT c) = true ∧ plainOver K (caddrT c) = true ∧ makesIn K (caddrT c) = true ∧
    findIn K (.ref (caddrT c)) "__setattr__" = some (some (.builtin "object.__setattr__")) ∧ allAttrs.all (fun x => findIn K (.ref (caddrT c)) (Str.ofString x) == some none) = true :=
  an h fun h h6 => an h fun h h5 => an h fun h h4 => an h fun h h3 => an h fun h1 h2 => ⟨h1, h2, h3, h4, eq_of_beq h5, h6⟩
section
variable {K : Frag} {base : Heap} {mg mb : Str → Option Value}
theorem stat_of (hK : chkAll K = true) (X : K.In base) (g : base.Ns mainGlobals mg) (b : base.Ns builtinsNs mb) (bt : ∀ x : Str, x ≠ "__name__" → mb x = bootBuiltins x) (nl : base.NoLimit) : Stat K base mg mb caddrT := by
  have hc : ∀ c : Cls, c ∈ [Cls.counted, Cls.cell] := fun c => by cases c <;> first | exact .head _ | exact .tail _ (.head _)
  have key : ∀ c, _ := fun c => chkCls_of (all_of (chkAll_and hK).2.2 (hc c))
  exact ⟨X, g, b, bt, nl, fun c => (key c).1, fun c => (key c).2.1, fun c => (key c).2.2.2.2.1, fun c => (key c).2.2.1, fun c x hx => eq_of_beq (all_of (key c).2.2.2.2.2 hx), fun c => (key c).2.2.2.1⟩
theorem statG_of (hK : chkAll K = true) (X : K.In base) (g : base.Ns mainGlobals mg) : StatG K mg := by
  refine ⟨fun x hx => ?_, fun f hf => ?_⟩
  · have h := all_of (chkAll_and hK).2.1 hx
    unfold chkNone at h
    generalize e : nsIn K mainGlobals (Str.ofString x) = o at h
    cases o with
    | none => cases h
    | some o => cases o with
      | none => exact mg_none_of X g e
      | some v => cases h
  · have h := all_of (chkAll_and hK).1.2 hf
    unfold chkKeep at h
    generalize e : nsIn K mainGlobals (Str.ofString f) = o at h
    cases o with
    | none => cases h
    | some o => cases o with
      | none => cases h
      | some v => exact ⟨v, mg_of X g e, h⟩
theorem lookup_fst {α : Type} {f : String} {d : α} {l : List (String × α)} (h : l.lookup f = some d) : f ∈ l.map (·.1) := by
  induction l with
  | nil => cases h
  | cons p r ih => exact lookup_el h (fun e _ => by rw [e]; exact .head _) fun _ h => .tail _ (ih h)
theorem tab_sub : (tabL.map (·.1)).all (fun f => fnNames.contains f) = true := by decide +kernel
theorem tab_names {f : String} {d : Def} (h : tab f = some d) : f ∈ fnNames := List.contains_iff_mem.mp (all_of tab_sub (lookup_fst h))
theorem chkFn_of {K : Frag} {v : Option (Option Value)} {ps : List String} {b : List LS} (h : chkFn K v ps b = true) : ∃ a o fd, v = some (some (.ref a)) ∧ K.lookup a = some o ∧ o.data = .func fd ∧ FnOk K fd ps b := by
  cases v with
  | none => cases h
  | some v => cases v with
    | none => cases h
    | some v => cases v with
      | ref a =>
        have h : funcIs (fun fd => fnOk K fd ps b) (K.lookup a) = true := h
        generalize e : K.lookup a = o at h
        cases o with
        | none => cases h
        | some o =>
          obtain ⟨c, d, da, sl⟩ := o
          cases da with
          | func fd => exact ⟨a, _, fd, rfl, e, rfl, fnOk_of h⟩
          | _ => cases h
      | _ => cases h
theorem tabOk_of (hK : chkAll K = true) (X : K.In base) (g : base.Ns mainGlobals mg) : TabOk K caddrT mg tab := by
  intro f d v hf hv
  have hc := all_of (chkAll_and hK).1.1 (tab_names hf)
  unfold chk at hc
  rw [hf] at hc
  cases d with
  | fn ps b =>
    obtain ⟨a, o, fd, e, hl, hd, F⟩ := chkFn_of hc
    have := mg_of X g e
    rw [hv] at this; cases this
    exact .fn hl hd F
  | cls c ps b =>
    refine an hc fun e hc => ?_
    have := mg_of X g (eq_of_beq e)
    rw [hv] at this; cases this
    have hc : initIs K ps b (findIn K (.ref (caddrT c)) "__init__") = true := hc
    generalize hr : findIn K (.ref (caddrT c)) "__init__" = r at hc
    cases r with
    | none => cases hc
    | some r => cases r with
      | none => cases hc
      | some v =>
        refine an hc fun h1 h2 => ?_
        obtain ⟨a, o, fd, e2, hl, hd, F⟩ := chkFn_of h1
        cases e2
        exact .cls hr (eq_of_beq h2) hl hd F
end
section
variable {prog : Program} {w : World} {base : Heap} {mg mb : Str → Option Value} {P : Params}
theorem core_none {caddr : Cls → Addr} {h : Heap} (kp : ∀ b o, base.get? b = some o → h.get? b = some o) (low : ∃ o, base.get? cStatics = some o) : Core prog w base caddr (fun _ _ => none) H0 h :=
  ⟨fun i o e => (by cases e), fun _ _ _ => rfl, fun _ _ _ _ _ e => (by cases e), fun _ _ _ e => (by cases e), kp, low⟩
structure LawEnv (env : PySem.Env) : Prop where
  kind : env.scope.kind = .function
  glob : env.globals = mainGlobals
  blt : env.builtins = builtinsNs
  cells : env.cells = []
  nocell : env.scope.names.all (fun p => p.2 != .cell) = true
  script : env.scope.names.lookup (Str.ofString "script") = some .local
theorem law_store (LO : LawOk) {K : Frag} (S : Stat K base mg mb caddrT) (G : StatG K mg) (hT : TabOk K caddrT mg tab) {A : Around} (hX : CtxA 30 A) {s : Shared} {h1 : Heap} {tk : Nat} {env : PySem.Env} (LE : LawEnv env) (low : ∃ o, base.get? cStatics = some o)
    {vs : List Value} {ns : List Int} (hI : IntsAre vs ns) (hn : ns.length ≤ 63) (kp : ∀ b o, base.get? b = some o → s.heap.get? b = some o) (k1 : ∀ b o, s.heap.get? b = some o → h1.get? b = some o) (hL : base.get? env.locals = none)
    {m : Str → Option Value} (hm : s.heap.Ns env.locals m) {rest : List Stmt} (mm : mSs env.scope.names lawRest rest = true) :
    wpAny (model prog w) A (storeName env (Str.ofString "script") (.ref h1.objs.size)) (fun _ s' => wpAny (model prog w) A (execs rest env) (fun f s' => f = .ret (.bool true) ∧ ∃ h' tk, s' = { s with heap := h', toks := tk } ∧ ∀ b o, base.get? b = some o → h'.get? b = some o) (fun _ _ => False) s') (fun _ _ => False)
      { s with heap := h1.push { cls := .type "list", data := .seq vs.toArray }, toks := tk } := by
  have kp2 : ∀ b o, base.get? b = some o → (h1.push { cls := .type "list", data := .seq vs.toArray }).get? b = some o := fun b o e => Heap.get?_push_of_some _ (k1 b o (kp b o e))
  have hD : (h1.push { cls := .type "list", data := .seq vs.toArray }).get? h1.objs.size = some { cls := .type "list", data := .seq vs.toArray } := Heap.get?_push_size _ rfl
  have hs1 : h1.get? h1.objs.size = none := get?_size _
  have hl1 : cStatics < h1.objs.size := by obtain ⟨o, e⟩ := low; exact Heap.lt_size (k1 _ _ (kp _ _ e))
  have hm2 : (h1.push { cls := .type "list", data := .seq vs.toArray }).Ns env.locals m := hm.keeps fun b o e => Heap.get?_push_of_some _ (k1 b o e)
  have hDL : h1.objs.size ≠ env.locals := fun e => by
    obtain ⟨o, ho⟩ := ns_get hm
    rw [e, k1 _ _ ho] at hs1; cases hs1
  have hDb : base.get? h1.objs.size = none := by
    cases e : base.get? h1.objs.size with
    | none => rfl
    | some o => rw [k1 _ _ (kp _ _ e)] at hs1; cases hs1
  revert kp2 hD hm2 hDL hDb hl1
  generalize h1.push { cls := .type "list", data := .seq vs.toArray } = h2
  generalize h1.objs.size = D
  intro kp2 hD hl1 hm2 hDL hDb
  have C1 : Core prog w base caddrT _ _ h2 := Core.adopt (i := .loc 0) (a := D) (o' := .list (ns.map V.int)) (core_none kp2 low) rfl (fun _ _ e => nomatch e) hDb hl1 hD (fun e => absurd (Value.type.inj e) (by decide))
    (.list (Mu.set_self _ _ _ _) hD (VRels.ofInts hI) (by rw [List.length_map]; exact Nat.le_trans hn (by decide)))
  have eo : EnvOk base env (Mu.set (fun _ _ => none) (.loc 0) false D) h2 (fun _ => none) := by
    refine ⟨LE.kind, LE.glob, LE.blt, fun b hb => ?_, fun x c h => (by rw [LE.cells] at h; cases h), fun x y c h => (by rw [LE.cells] at h; cases h), fun x c h => (by rw [LE.cells] at h; cases h), fun x h => ?_, _, hm2, fun x Z hx hv => nomatch hx⟩
    · rcases hb with rfl | ⟨x, hx⟩
      · exact ⟨hL, fun i t e => Mu.set_el e (fun _ _ z => hDL z.symm) fun e => nomatch e⟩
      · rw [LE.cells] at hx; cases hx
    · exact absurd rfl (bne_iff_ne.mp (all_of LE.nocell (lookup_mem h)))
  refine st_local (s := { s with heap := h2, toks := tk }) C1 eo (VRel.o (Mu.set_self _ _ _ _)) LE.script fun h3 tk3 C3 _ _ eo3 _ _ => ?_
  refine wpAny_mono ((pss S G lawRest).run (s := { s with heap := h3, toks := tk3 }) ⟨call_ok S G hT 30, hX, C3, eo3⟩ mm (LO ns hn)) (fun fl s₂ z => z.el fun h4 tk4 μ4 ρ4 H4 C4 X4 eo4 p => ?_) fun _ _ x => x
  rcases p with ⟨_, p⟩ | ⟨Z, v, rfl, r, p⟩
  · cases p
  · cases p
    obtain rfl : v = .bool true := r
    exact ⟨rfl, h4, tk4, rfl, C4.bas⟩
theorem law_run (LO : LawOk) {K : Frag} (S : Stat K base mg mb caddrT) (G : StatG K mg) (hT : TabOk K caddrT mg tab) {A : Around} (hX : CtxA 30 A) {s : Shared} {env : PySem.Env} (LE : LawEnv env) (low : ∃ o, base.get? cStatics = some o)
    {l : Addr} {vs : List Value} {ns : List Int} (hl : base.IsList l vs.toArray) (hI : IntsAre vs ns) (hn : ns.length ≤ 63) (hsz : vs.length ≤ sizeLine) (kp : ∀ b o, base.get? b = some o → s.heap.get? b = some o) (hL : base.get? env.locals = none)
    {m : Str → Option Value} (hm : s.heap.Ns env.locals m) (hms : m (Str.ofString "script") = some (.ref l)) {p1 p2 p3 p4 p5 p6 : Pos} {kk : Nat} {rest : List Stmt} (mm : mSs env.scope.names lawRest rest = true) :
    wpAny (model prog w) A (execs (.Assign [.Name (Str.ofString "script") p1] (.Subscript (.Name (Str.ofString "script") p2) (.Slice none (some (.Constant (.int 63) kk p3)) none p4) p5) p6 :: rest) env)
      (fun f s' => f = .ret (.bool true) ∧ ∃ h' tk, s' = { s with heap := h', toks := tk } ∧ ∀ b o, base.get? b = some o → h'.get? b = some o) (fun _ _ => False) s := by
  have hk : env.kindOf (Str.ofString "script") = some .local := LE.script
  refine wpAny_execs_cons (wpAny_Assign_Name (Subscript_ (wpAny_Name (wpAny_loadName_local LE.kind hk hm hms (wpAny_Slice ?_)) (by decide +kernel))) rfl)
  rw [evalPart_none, evalPart_some]
  refine wpAny_pure (wpAny_Constant_int (wpAny_pure ?_))
  have hl1 := hl.at fun o e => kp _ o e
  have hl2 : (s.heap.push { cls := .type "slice", data := .fields #[.none, .int 63 s.toks, .none] }).IsList l vs.toArray := hl1.at fun o e => Heap.get?_push_of_some _ e
  refine tail_any (s := { s with heap := s.heap.push { cls := .type "slice", data := .fields #[.none, .int 63 s.toks, .none] }, toks := s.toks + 1 }) hl2.typeIs slot_list_getitem.lookup (ops := [_, .ref l]) ?_ rfl
  refine wpAny_getItem_list_slice (s := { s with heap := s.heap.push { cls := .type "slice", data := .fields #[.none, .int 63 s.toks, .none] }, toks := s.toks + 1 }) hl2 ⟨_, Heap.get?_push_size _ rfl, rfl, rfl⟩ .none (.int 63 s.toks) .none (by intro e; cases e) ?_ hsz
  rw [show (63 : Int) = ((63 : Nat) : Int) from rfl, slicePick_upto', show vs.toArray.toList.take 63 = vs from List.take_of_length_le (hI.length ▸ hn)]
  exact law_store LO S G hT hX LE low hI hn (kp := kp) (fun b o e => Heap.get?_push_of_some _ e) hL hm mm
end
end Mine
end
noncomputable section
open PySem PySem.W PyProof.Rows
set_option maxRecDepth 100000
set_option maxHeartbeats 8000000
namespace Mine
theorem said_ok : PySem.Challenge.rw_pf0211_01.wellSaid = true := by kernel_rfl
local macro_rules | `(tactic| k_qdec) => `(tactic| decide +kernel)
theorem final (LO : LawOk) : PySem.Challenge.rw_pf0211_01.Holds := by
  w_on
  refine holds_law (l := PySem.Challenge.rw_pf0211_01) said_ok fun said => ?_
  refine holds_open (q := theV) (loose := []) (Xt := theX) (XP := XL theV []) (Yf := Hook.obs hk) (Ya := Hook.val hk) (YP := Hook.says hk) (N := 5450) left_ok (Hook.of hk) (Hook.keeps hk) (fun s e => xl_of s (Bool.and_eq_true_iff.mp e).1) XL.keeps (by rfl) (by rfl) (by rfl) (fun s e => recFacts_of (Bool.and_eq_true_iff.mp e).2) (by rfl) (by first | assumption | decide +kernel) (by decide +kernel) ⟨rfl, rfl, rfl, rfl, rfl, by decide +kernel⟩ ?hw ?hc
  case hw => w_witness2
  intro w s₀ s₁ mg mb G Y fa o pm cd doc dV kV ho hd hcd hD hmg hg args vals as hpre hlay hrd hwl hlo
  obtain ⟨KF, KX, hKF⟩ := Y
  k_behind G ho hd hcd hD hmg hpre hlay hrd hwl hlo cd
  rename Top _ _ _ _ _ _ => T
  rename IntsAre _ _ => hI
  rename Heap.IsList _ _ _ => hL
  rename Fr _ _ _ _ => F
  rename ¬ ((63 : Nat) : Int) < _ => hlen
  refine wpAny_mono (law_run LO (stat_of hKF KX T.g T.b T.builtins T.nolimit) (statG_of hKF KX T.g) (tabOk_of hKF KX T.g) ?hX ?hE ?low hL hI ?hn ?hsz F.keep ?hL F.ns ?hms ?mm) ?post ?err
  case hX => exact ⟨rfl, Nat.le_of_ble_eq_true rfl, Nat.le_of_ble_eq_true rfl⟩
  case hE => exact ⟨rfl, rfl, rfl, rfl, by kernel_rfl, by kernel_rfl⟩
  case low => obtain ⟨mc, ⟨oS, _, _, hS, _⟩, _⟩ := T.nodigits; exact ⟨oS, hS⟩
  case hn => omega
  case hsz => rw [hI.length, PySem.sizeLine_eq]; omega
  case hL => exact get?_size _
  case hms => rfl
  case mm => kernel_rfl
  case post =>
    rintro f s' ⟨rfl, h', tk, rfl, kp⟩
    refine ⟨.inl ⟨_, _, _, rfl, fun cls => ?_, .bool true, ?_, unshared_nil⟩, kp, rfl, hg⟩
    · rfl
    · kernel_rfl
  case err => exact fun _ _ x => x.elim
end Mine
end
noncomputable section
namespace Mine
inductive Val where | int (i : Int) | cell (n : Int)
deriving DecidableEq
noncomputable def Val.toV : Val → V
  | .int i => .tup [.str "int", .int i]
  | .cell n => .tup [.str "cell", .int n]
inductive LogE where | copy (a b : Int) | free (n : Int) | destruct (n : Int)
deriving DecidableEq
noncomputable def LogE.toV : LogE → V
  | .copy a b => .tup [.str "copy", .int a, .int b]
  | .free n => .tup [.str "free", .int n]
  | .destruct n => .tup [.str "destruct", .int n]
structure St where
  keys : List Int
  sort : Int → String
  count : Int → Int
  slots : Int → List (Int × Val)
  sep : Int → Nat
  colour : Int → String
  buffered : Int → Bool
  hasD : Int → Bool
  isD : Int → Bool
  vars : List (Int × Val)
  vep : Nat
  cep : Nat
  log : List LogE
  last : Int
  buffer : List Int
  bid : Nat
  freed : Int
noncomputable def upd {α : Type} (f : Int → α) (n : Int) (a : α) : Int → α := fun m => if m = n then a else f m
theorem upd_self {α : Type} (f : Int → α) (n : Int) (a : α) : upd f n a n = a := if_pos rfl
theorem upd_ne {α : Type} (f : Int → α) {n m : Int} (a : α) (h : m ≠ n) : upd f n a m = f m := if_neg h
noncomputable abbrev sv (p : Int × Val) : Int × V := (p.1, p.2.toV)
noncomputable def rootO (σ : St) : O := .inst .counted [("cells", .obj .cellsD), ("vars", .obj .varsD), ("log", .obj .logL), ("last", .int σ.last), ("buffer", .obj (.buf σ.bid)), ("full", .int 1000), ("freed", .int σ.freed), ("plan", .obj .planD), ("tables", .obj .tablesL)]
noncomputable def cellO (σ : St) (n : Int) : O := .inst .cell [("sort", .str (σ.sort n)), ("number", .int n), ("count", .int (σ.count n)), ("slots", .obj (.slots n)), ("colour", .str (σ.colour n)), ("is_buffered", .bool (σ.buffered n)),
  ("has_destructor", .bool (σ.hasD n)), ("is_destructed", .bool (σ.isD n)), ("is_freed", .bool false), ("weak", .none)]
structure Rep (σ : St) (H : Hp) : Prop where
  root : H .root = some (rootO σ)
  cells : H .cellsD = some (.dict σ.cep (σ.keys.map fun n => (n, V.obj (.cell n))))
  vars : H .varsD = some (.dict σ.vep (σ.vars.map sv))
  log : H .logL = some (.list (σ.log.map LogE.toV))
  plan : H .planD = some (.dict 0 [])
  tables : H .tablesL = some (.list [])
  buf : H (.buf σ.bid) = some (.list (σ.buffer.map V.int))
  bufN : ∀ k, σ.bid < k → H (.buf k) = none
  cell : ∀ n ∈ σ.keys, H (.cell n) = some (cellO σ n)
  slots : ∀ n ∈ σ.keys, H (.slots n) = some (.dict (σ.sep n) ((σ.slots n).map sv))
  nsl : ∀ n ∈ σ.keys, H (.nslots n) = none
  new : ∀ n, σ.last < n → H (.cell n) = none ∧ H (.slots n) = none ∧ H (.nslots n) = none
  fresh : ∃ N, ∀ k, N ≤ k → H (.loc k) = none
noncomputable def Lk (H H' : Hp) : Prop := ∀ k o, H (.loc k) = some o → H' (.loc k) = some o
theorem Lk.refl (H : Hp) : Lk H H := fun _ _ e => e
theorem Lk.trans {H H' H'' : Hp} (a : Lk H H') (b : Lk H' H'') : Lk H H'' := fun k o e => b k o (a k o e)
theorem getK_map {es : List (Int × Val)} {k : Int} : getK (es.map sv) k = (es.lookup k).map Val.toV := by
  induction es with
  | nil => rfl
  | cons p r ih =>
    obtain ⟨a, b⟩ := p
    unfold getK at ih ⊢
    rw [List.map_cons, List.find?_cons, List.lookup_cons]
    by_cases h : a = k
    · subst h; simp
    · have h1 : (a == k) = false := by simpa using h
      have h2 : (k == a) = false := by simpa using Ne.symm h
      rw [h2]
      show ((match (a == k) with | true => _ | false => _ : Option (Int × V)).map _) = _
      rw [h1]
      exact ih
theorem getK_keys {ks : List Int} {k : Int} : getK (ks.map fun n => (n, V.obj (.cell n))) k = if k ∈ ks then some (.obj (.cell k)) else none := by
  induction ks with
  | nil => rfl
  | cons a r ih =>
    unfold getK at ih ⊢
    rw [List.map_cons, List.find?_cons]
    by_cases h : a = k
    · subst h; simp
    · have h1 : (a == k) = false := by simpa using h
      show ((match (a == k) with | true => _ | false => _ : Option (Int × V)).map _) = _
      rw [h1]
      simp only [List.mem_cons, Ne.symm h, false_or]
      exact ih
noncomputable def cellV (σ : St) : Val → V
  | .int _ => .none
  | .cell n => if n ∈ σ.keys then .obj (.cell n) else .none
end Mine
end
noncomputable section
namespace Mine
noncomputable def seqQ (C : CallP) (r : List LS) (QS : PostS) : PostS := fun fl ρ' H' => match fl with
  | .next => wpSs C r ρ' QS H'
  | .ret v => QS (.ret v) ρ' H'
noncomputable def retQ (Q : V → Hp → Prop) : PostS := fun fl _ H' => match fl with
  | .next => Q .none H'
  | .ret v => Q v H'
noncomputable def initQ (i : Id) (Q : V → Hp → Prop) : PostS := fun fl _ H' => match fl with
  | .next => Q (.obj i) H'
  | .ret _ => False
noncomputable def loopQ (I : Nat → Env → Hp → Prop) (n : Nat) (QS : PostS) : PostS := fun fl ρ' H' => match fl with
  | .next => ∃ m, m < n ∧ I m ρ' H'
  | .ret v => QS (.ret v) ρ' H'
noncomputable def turnQ (I : Nat → Env → Hp → Prop) (j : Nat) (QS : PostS) : PostS := fun fl ρ' H' => match fl with
  | .next => I (j + 1) ρ' H'
  | .ret v => QS (.ret v) ρ' H'
section
variable {C : CallP} {r : List LS} {ρ : Env} {QS : PostS} {Q : V → Hp → Prop} {H : Hp}
theorem c_fn {T : Tab} {n : Nat} {f : String} {ps : List String} {b : List LS} {args : List V} {ρ : Env} (hf : T f = some (.fn ps b)) (hb : bindAll (fun _ => none) ps args = some ρ) (q : wpSs (callP T n) b ρ (retQ Q) H) : callP T (n + 1) f args Q H := by
  show (match T f with | some (.fn ps b) => _ | some (.cls c ps b) => _ | none => _)
  rw [hf]; exact ⟨ρ, hb, q⟩
theorem c_cls {T : Tab} {n : Nat} {f : String} {c : Cls} {ps : List String} {b : List LS} {args : List V} {i : Id} {ρ : Env} (hf : T f = some (.cls c ps b)) (hi : H i = none) (hb : bindAll (fun _ => none) ps (.obj i :: args) = some ρ)
    (q : wpSs (callP T n) b ρ (initQ i Q) (H.set i (.inst c []))) : callP T (n + 1) f args Q H := by
  show (match T f with | some (.fn ps b) => _ | some (.cls c ps b) => _ | none => _)
  rw [hf]; exact ⟨i, hi, ρ, hb, q⟩
theorem s_cons {s : LS} (q : wpS C s ρ (seqQ C r QS) H) : wpSs C (s :: r) ρ QS H := q
theorem s_nil (q : QS .next ρ H) : wpSs C [] ρ QS H := q
theorem s_seq (q : wpSs C r ρ QS H) : seqQ C r QS .next ρ H := q
theorem s_assign {x : String} {e : LE} (q : wpE C e ρ (fun v H => wpSs C r (ρ.upd x v) QS H) H) : wpSs C (.assign x e :: r) ρ QS H := q
theorem s_assignTup {xs : List String} {e : LE} (q : wpE C e ρ (fun v H => ∃ vs ρ', v = .tup vs ∧ bindAll ρ xs vs = some ρ' ∧ wpSs C r ρ' QS H) H) : wpSs C (.assignTup xs e :: r) ρ QS H := q
theorem s_expr {e : LE} (q : wpE C e ρ (fun _ H => wpSs C r ρ QS H) H) : wpSs C (.expr e :: r) ρ QS H := q
theorem s_ret {e : LE} (q : wpE C e ρ (fun v H => QS (.ret v) ρ H) H) : wpSs C (.ret e :: r) ρ QS H := q
theorem s_if {c : LE} {t f : List LS} (q : wpE C c ρ (fun v H => ∃ b, truthyV H v = some b ∧ (if b then wpSs C t ρ (seqQ C r QS) H else wpSs C f ρ (seqQ C r QS) H)) H) : wpSs C (.ifs c t f :: r) ρ QS H := q
theorem s_attr {o : LE} {a : String} {e : LE} (q : wpE C e ρ (fun v H => wpE C o ρ (fun u H => ∃ H', putAttr H u a v = some H' ∧ wpSs C r ρ QS H') H) H) : wpSs C (.assignAttr o a e :: r) ρ QS H := q
theorem s_attrs {x : String} {as : List String} {e : LE} (q : wpE C e ρ (fun v H => ∃ vs u H', v = .tup vs ∧ ρ x = some u ∧ putAttrs H u as vs = some H' ∧ wpSs C r ρ QS H') H) : wpSs C (.assignAttrs x as e :: r) ρ QS H := q
theorem s_idx {o i e : LE} (q : wpE C e ρ (fun v H => wpE C o ρ (fun u H => wpE C i ρ (fun k H => ∃ H', putIdx H u k v = some H' ∧ wpSs C r ρ QS H') H) H) H) : wpSs C (.assignIdx o i e :: r) ρ QS H := q
theorem s_aug {o : LE} {a : String} {op : BOp} {e : LE} (q : wpE C o ρ (fun u H => ∃ old, attrOf H u a = some (.int old) ∧ wpE C e ρ (fun v H => binW op (.int old) v (fun x H => ∃ H', putAttr H u a x = some H' ∧ wpSs C r ρ QS H') H) H) H) : wpSs C (.augAttr o a op e :: r) ρ QS H := q
theorem s_augIdx {o i : LE} {op : BOp} {e : LE} (q : wpE C o ρ (fun u H => wpE C i ρ (fun k H => ∃ old, idxOf H u k = some (.int old) ∧ wpE C e ρ (fun v H => binW op (.int old) v (fun x H => ∃ H', putIdx H u k x = some H' ∧ wpSs C r ρ QS H') H) H) H) H) : wpSs C (.augIdx o i op e :: r) ρ QS H := q
theorem s_del {o i : LE} (q : wpE C o ρ (fun u H => wpE C i ρ (fun k H => ∃ H', delIdxH H u k = some H' ∧ wpSs C r ρ QS H') H) H) : wpSs C (.delIdx o i :: r) ρ QS H := q
theorem s_while {c : LE} {b : List LS} (I : Nat → Env → Hp → Prop) (n : Nat) (h0 : I n ρ H) (h : ∀ n ρ H, I n ρ H → wpE C c ρ (fun v H => ∃ t, truthyV H v = some t ∧ (if t then wpSs C b ρ (loopQ I n QS) H else wpSs C r ρ QS H)) H) : wpSs C (.while c b :: r) ρ QS H := Exists.intro I ⟨⟨n, h0⟩, h⟩
noncomputable def ForI (C : CallP) (xs : List String) (k : SrcK) (b r : List LS) (ρ : Env) (QS : PostS) (v : V) (H : Hp) : Prop := ∃ items keep, srcOf k H v = some (items, keep) ∧
      ∃ I : Nat → Env → Hp → Prop, I 0 ρ H ∧ (∀ j ρ' H', I j ρ' H' → staysO H H' keep) ∧
        (∀ j ρ' H' it, items[j]? = some it → I j ρ' H' → ∃ ρ'', bindT ρ' xs it = some ρ'' ∧ wpSs C b ρ'' (turnQ I j QS) H') ∧
        (∀ ρ' H', I items.length ρ' H' → wpSs C r ρ' QS H')
theorem s_for {xs : List String} {k : SrcK} {src : LE} {b : List LS} (q : wpE C src ρ (ForI C xs k b r ρ QS) H) : wpSs C (.for xs k src b :: r) ρ QS H := q
theorem for_i {xs : List String} {k : SrcK} {b : List LS} {v : V} {items : List V} {keep : Option Id} (I : Nat → Env → Hp → Prop) (hs : srcOf k H v = some (items, keep)) (h0 : I 0 ρ H) (hk : ∀ j ρ' H', I j ρ' H' → staysO H H' keep)
    (ht : ∀ j ρ' H' it, items[j]? = some it → I j ρ' H' → ∃ ρ'', bindT ρ' xs it = some ρ'' ∧ wpSs C b ρ'' (turnQ I j QS) H') (he : ∀ ρ' H', I items.length ρ' H' → wpSs C r ρ' QS H') : ForI C xs k b r ρ QS v H := ⟨items, keep, hs, I, h0, hk, ht, he⟩
theorem i_var {x : String} {v : V} (h : ρ x = some v) (q : Q v H) : wpE C (.var x) ρ Q H := Exists.intro v ⟨h, q⟩
theorem i_none (q : Q .none H) : wpE C .none ρ Q H := q
theorem i_bool {b : Bool} (q : Q (.bool b) H) : wpE C (.bool b) ρ Q H := q
theorem i_int {i : Int} (q : Q (.int i) H) : wpE C (.int i) ρ Q H := q
theorem i_str {s : String} (q : Q (.str s) H) : wpE C (.str s) ρ Q H := q
theorem i_attr {e : LE} {x : String} (q : wpE C e ρ (fun v H => ∃ u, attrOf H v x = some u ∧ Q u H) H) : wpE C (.attr e x) ρ Q H := q
theorem i_idx {e i : LE} (q : wpE C e ρ (fun v H => wpE C i ρ (fun k H => ∃ u, idxOf H v k = some u ∧ Q u H) H) H) : wpE C (.idx e i) ρ Q H := q
theorem i_tup {es : List LE} (q : wpEs C es ρ (fun vs H => Q (.tup vs) H) H) : wpE C (.tup es) ρ Q H := q
theorem i_list {es : List LE} (q : wpEs C es ρ (fun vs H => newO (.list vs) Q H) H) : wpE C (.list es) ρ Q H := q
theorem i_dict (q : newO (.dict 0 []) Q H) : wpE C .dict0 ρ Q H := q
theorem i_call {f : String} {es : List LE} (q : wpEs C es ρ (fun vs H => C f vs Q H) H) : wpE C (.call f es) ρ Q H := q
theorem i_blt {b : Blt} {e : LE} (q : wpE C e ρ (fun v H => bltW b v Q H) H) : wpE C (.blt b e) ρ Q H := q
theorem i_cmp {op : Cmp} {a b : LE} (q : wpE C a ρ (fun x H => wpE C b ρ (fun y H => cmpW op x y Q H) H) H) : wpE C (.cmp op a b) ρ Q H := q
theorem i_bin {op : BOp} {a b : LE} (q : wpE C a ρ (fun x H => wpE C b ρ (fun y H => binW op x y Q H) H) H) : wpE C (.bin op a b) ρ Q H := q
theorem i_not {e : LE} (q : wpE C e ρ (fun v H => ∃ b, truthyV H v = some b ∧ Q (.bool (!b)) H) H) : wpE C (.not e) ρ Q H := q
theorem i_ite {c a b : LE} (q : wpE C c ρ (fun v H => ∃ t, truthyV H v = some t ∧ (if t then wpE C a ρ Q H else wpE C b ρ Q H)) H) : wpE C (.ite c a b) ρ Q H := q
theorem i_neg {e : LE} {i : Int} (h : ∀ P : V → Hp → Prop, P (.int i) H → wpE C e ρ P H) (q : Q (.int (-i)) H) : wpE C (.neg e) ρ Q H := h _ ⟨i, rfl, q⟩
theorem i_bor {es : List LE} (q : wpOr C es ρ Q H) : wpE C (.bor es) ρ Q H := q
theorem i_band {es : List LE} (q : wpAnd C es ρ Q H) : wpE C (.band es) ρ Q H := q
theorem i_nil {Q : List V → Hp → Prop} (q : Q [] H) : wpEs C [] ρ Q H := q
theorem i_cons {e : LE} {es : List LE} {Q : List V → Hp → Prop} (q : wpE C e ρ (fun v H => wpEs C es ρ (fun vs H => Q (v :: vs) H) H) H) : wpEs C (e :: es) ρ Q H := q
theorem i_or1 {e : LE} (q : wpE C e ρ Q H) : wpOr C [e] ρ Q H := q
theorem i_or {e e' : LE} {es : List LE} (q : wpE C e ρ (fun v H => ∃ t, truthyV H v = some t ∧ (if t then Q v H else wpOr C (e' :: es) ρ Q H)) H) : wpOr C (e :: e' :: es) ρ Q H := q
theorem i_and1 {e : LE} (q : wpE C e ρ Q H) : wpAnd C [e] ρ Q H := q
theorem i_and {e e' : LE} {es : List LE} (q : wpE C e ρ (fun v H => ∃ t, truthyV H v = some t ∧ (if t then wpAnd C (e' :: es) ρ Q H else Q v H)) H) : wpAnd C (e :: e' :: es) ρ Q H := q
theorem i_methL {e : LE} {m : Mth} {es : List LE} {i : Id} {xs : List V} (h : ∀ P : V → Hp → Prop, P (.obj i) H → wpE C e ρ P H) (hl : H i = some (.list xs)) (hm : Nat.beq m.ctorIdx 4 = false) (q : wpEs C es ρ (fun vs H => methL m i vs Q H) H) : wpE C (.meth e m es) ρ Q H :=
  h _ ⟨i, rfl, .inl ⟨xs, hl, (fun e => Nat.ne_of_beq_eq_false hm (congrArg Mth.ctorIdx e)), q⟩⟩
theorem i_methD {e : LE} {m : Mth} {es : List LE} {i : Id} {ep : Nat} {xs : List (Int × V)} (h : ∀ P : V → Hp → Prop, P (.obj i) H → wpE C e ρ P H) (hl : H i = some (.dict ep xs)) (hm : m = .get ∨ m = .pop) (q : wpEs C es ρ (fun vs H => methD m i vs Q H) H) : wpE C (.meth e m es) ρ Q H :=
  h _ ⟨i, rfl, .inr ⟨ep, xs, hl, hm, q⟩⟩
theorem t_t {v : V} {P R : Prop} (h : truthyV H v = some true) (q : P) : ∃ b, truthyV H v = some b ∧ (if b then P else R) := ⟨true, h, q⟩
theorem t_f {v : V} {P R : Prop} (h : truthyV H v = some false) (q : R) : ∃ b, truthyV H v = some b ∧ (if b then P else R) := ⟨false, h, q⟩
theorem t_not {v : V} {b : Bool} (h : truthyV H v = some b) (q : Q (.bool (!b)) H) : ∃ b, truthyV H v = some b ∧ Q (.bool (!b)) H := ⟨b, h, q⟩
theorem it_t {P R : Prop} (q : P) : if true = true then P else R := q
theorem it_f {P R : Prop} (q : R) : if false = true then P else R := q
theorem t_any {v : V} {b : Bool} {P : Bool → Prop} (h : truthyV H v = some b) (q : P b) : ∃ b, truthyV H v = some b ∧ P b := ⟨b, h, q⟩
theorem k_eqs {a b : String} {t : Bool} (h : (a == b) = t) (q : Q (.bool t) H) : cmpW .eq (.str a) (.str b) Q H := ⟨.str a, .str b, rfl, rfl, by subst h; exact q⟩
theorem ne_int {a b : Int} (h : a = b) (q : Q (.bool false) H) : cmpW .ne (.int a) (.int b) Q H := ⟨.int a, .int b, rfl, rfl, by subst h; rw [D.beq_self]; exact q⟩
theorem k_nes {a b : String} {t : Bool} (h : (!(a == b)) = t) (q : Q (.bool t) H) : cmpW .ne (.str a) (.str b) Q H := ⟨.str a, .str b, rfl, rfl, by subst h; exact q⟩
theorem k_gt {a b : Int} {t : Bool} (h : decide (a > b) = t) (q : Q (.bool t) H) : cmpW .gt (.int a) (.int b) Q H := ⟨a, b, rfl, rfl, h ▸ q⟩
theorem k_lt {a b : Int} {t : Bool} (h : decide (a < b) = t) (q : Q (.bool t) H) : cmpW .lt (.int a) (.int b) Q H := ⟨a, b, rfl, rfl, h ▸ q⟩
theorem k_nn {i : Id} (q : Q (.bool true) H) : cmpW .isNotNone (.obj i) .none Q H := q
theorem k_nn0 (q : Q (.bool false) H) : cmpW .isNotNone .none .none Q H := q
theorem k_in0 {i : Id} (q : Q (.bool false) H) : cmpW .isNone (.obj i) .none Q H := q
theorem k_in1 (q : Q (.bool true) H) : cmpW .isNone .none .none Q H := q
theorem k_inD {i : Id} {k : Int} {ep : Nat} {es : List (Int × V)} {t : Bool} (h : H i = some (.dict ep es)) (ht : hasK es k = t) (q : Q (.bool t) H) : cmpW .in_ (.int k) (.obj i) Q H := ⟨k, i, rfl, rfl, .inl ⟨ep, es, h, by subst ht; exact q⟩⟩
theorem k_ninD {i : Id} {k : Int} {ep : Nat} {es : List (Int × V)} {t : Bool} (h : H i = some (.dict ep es)) (ht : (!hasK es k) = t) (q : Q (.bool t) H) : cmpW .notIn (.int k) (.obj i) Q H := ⟨k, i, rfl, rfl, .inl ⟨ep, es, h, by subst ht; exact q⟩⟩
theorem l_app {i : Id} {xs : List V} {x : V} (h : H i = some (.list xs)) (hl : xs.length + 1 ≤ LIM) (q : Q .none (H.set i (.list (xs ++ [x])))) : methL .append i [x] Q H := ⟨xs, h, x, rfl, hl, q⟩
theorem if_ne {x s t : String} {b : List LS} (h : ρ x = some (.str t)) (hne : (t == s) = false) (q : wpSs C r ρ QS H) : wpSs C (.ifs (.cmp .eq (.var x) (.str s)) b [] :: r) ρ QS H :=
  s_if (i_cmp (i_var h (i_str (k_eqs hne (t_f rfl (s_nil (s_seq q)))))))
theorem if_eq {x s : String} {b : List LS} (h : ρ x = some (.str s)) (q : wpSs C b ρ (seqQ C r QS) H) : wpSs C (.ifs (.cmp .eq (.var x) (.str s)) b [] :: r) ρ QS H :=
  s_if (i_cmp (i_var h (i_str (k_eqs (t := true) (by simp) (t_t rfl q)))))
theorem s_seqr {v : V} (q : QS (.ret v) ρ H) : seqQ C r QS (.ret v) ρ H := q
theorem r_ret {v : V} (q : Q v H) : retQ Q (.ret v) ρ H := q
theorem r_next (q : Q .none H) : retQ Q .next ρ H := q
theorem in_next {i : Id} (q : Q (.obj i) H) : initQ i Q .next ρ H := q
theorem tn_next {I : Nat → Env → Hp → Prop} {j : Nat} (q : I (j + 1) ρ H) : turnQ I j QS .next ρ H := q
theorem tn_ret {I : Nat → Env → Hp → Prop} {j : Nat} {v : V} (q : QS (.ret v) ρ H) : turnQ I j QS (.ret v) ρ H := q
theorem lp_next {I : Nat → Env → Hp → Prop} {n : Nat} (m : Nat) (h : m < n) (q : I m ρ H) : loopQ I n QS .next ρ H := ⟨m, h, q⟩
theorem lp_ret {I : Nat → Env → Hp → Prop} {n : Nat} {v : V} (q : QS (.ret v) ρ H) : loopQ I n QS (.ret v) ρ H := q
theorem b_addi {a b : Int} (q : Q (.int (a + b)) H) : binW .add (.int a) (.int b) Q H := .inl ⟨a, b, rfl, rfl, q⟩
theorem b_subi {a b : Int} (q : Q (.int (a - b)) H) : binW .sub (.int a) (.int b) Q H := ⟨a, b, rfl, rfl, q⟩
theorem b_modi {a b : Int} (h : b ≠ 0) (q : Q (.int (a.fmod b)) H) : binW .mod (.int a) (.int b) Q H := ⟨a, b, rfl, rfl, h, q⟩
theorem b_fdivi {a b : Int} (h : 0 < b) (h2 : b < 1000000) (q : Q (.int (a.fdiv b)) H) : binW .fdiv (.int a) (.int b) Q H := ⟨a, b, rfl, rfl, h, h2, q⟩
theorem b_addl {i j : Id} {xs ys : List V} (h1 : H i = some (.list xs)) (h2 : H j = some (.list ys)) (hl : xs.length + ys.length ≤ LIM) (q : newO (.list (xs ++ ys)) Q H) : binW .add (.obj i) (.obj j) Q H := .inr ⟨i, j, xs, ys, rfl, rfl, h1, h2, hl, q⟩
theorem w_len {i : Id} {xs : List V} (h : H i = some (.list xs)) (q : Q (.int xs.length) H) : bltW .len (.obj i) Q H := ⟨i, xs, rfl, h, q⟩
theorem w_list {i : Id} {xs : List V} (h : H i = some (.list xs)) (q : newO (.list xs) Q H) : bltW .list (.obj i) Q H := ⟨i, xs, rfl, h, q⟩
theorem w_sortedL {i : Id} {xs : List V} {ns : List Int} (h : H i = some (.list xs)) (hx : intsOf xs = some ns) (hl : ns.length ≤ 60) (q : newO (.list ((sortI ns).map V.int)) Q H) : bltW .sorted (.obj i) Q H := ⟨i, rfl, .inl ⟨xs, ns, h, hx, hl, q⟩⟩
theorem w_sortedD {i : Id} {ep : Nat} {es : List (Int × V)} (h : H i = some (.dict ep es)) (hl : es.length ≤ 60) (q : newO (.list ((sortI (es.map (·.1))).map V.int)) Q H) : bltW .sorted (.obj i) Q H := ⟨i, rfl, .inr ⟨ep, es, h, hl, q⟩⟩
theorem w_values {i : Id} {ep : Nat} {es : List (Int × V)} (h : H i = some (.dict ep es)) (q : newO (.list (es.map (·.2))) Q H) : bltW .listValues (.obj i) Q H := ⟨i, ep, es, rfl, h, q⟩
theorem w_items {i : Id} {ep : Nat} {es : List (Int × V)} (h : H i = some (.dict ep es)) (q : newO (.list (es.map fun p => .tup [.int p.1, p.2])) Q H) : bltW .listItems (.obj i) Q H := ⟨i, ep, es, rfl, h, q⟩
theorem w_empty {i : Id} {ep : Nat} {es : List (Int × V)} {b : Bool} (h : H i = some (.dict ep es)) (hb : es.isEmpty = b) (q : Q (.bool b) H) : bltW .isEmpty (.obj i) Q H := ⟨i, ep, es, rfl, h, by subst hb; exact q⟩
theorem w_lenSet {i : Id} {xs : List V} {ns : List Int} (h : H i = some (.list xs)) (hx : intsOf xs = some ns) (hn : ns.Nodup) (hl : ns.length ≤ 1000) (q : Q (.int ns.length) H) : bltW .lenSet (.obj i) Q H := ⟨i, xs, ns, rfl, h, hx, hn, hl, q⟩
theorem i_sliceFrom {e n : LE} {i : Id} {m : Int} {xs : List V} (h : ∀ P : V → Hp → Prop, P (.obj i) H → wpE C e ρ P H) (h2 : ∀ P : V → Hp → Prop, P (.int m) H → wpE C n ρ P H) (hl : H i = some (.list xs)) (h0 : 0 ≤ m) (h1 : m ≤ 100000) (q : newO (.list (xs.drop m.toNat)) Q H) : wpE C (.sliceFrom e n) ρ Q H := h _ (h2 _ ⟨i, m, xs, rfl, rfl, hl, h0, h1, q⟩)
theorem l_ext {i j : Id} {xs ys : List V} (h : H i = some (.list xs)) (h2 : H j = some (.list ys)) (hl : xs.length + ys.length ≤ LIM) (q : Q .none (H.set i (.list (xs ++ ys)))) : methL .extend i [.obj j] Q H := ⟨xs, h, j, ys, rfl, h2, hl, q⟩
theorem l_pop {i : Id} {ys : List V} {y : V} (h : H i = some (.list (ys ++ [y]))) (q : Q y (H.set i (.list ys))) : methL .pop i [] Q H := ⟨_, h, ys, y, rfl, rfl, q⟩
theorem k_ninL {i : Id} {k : Int} {xs : List V} {ns : List Int} {t : Bool} (h : H i = some (.list xs)) (hx : intsOf xs = some ns) (ht : (!ns.contains k) = t) (q : Q (.bool t) H) : cmpW .notIn (.int k) (.obj i) Q H := ⟨k, i, rfl, rfl, .inr ⟨xs, ns, h, hx, by subst ht; exact q⟩⟩
end
noncomputable def CompI (C : CallP) (elt : LE) (x : String) (kk : SrcK) (conds : List LE) (ρ : Env) (Q : V → Hp → Prop) (v : V) (H : Hp) : Prop :=
    ∃ items keep, srcOf kk H v = some (items, keep) ∧
      ∃ I : Nat → List V → Hp → Prop, I 0 [] H ∧ (∀ j acc H', I j acc H' → staysO H H' keep ∧ acc.length ≤ j) ∧
        (∀ j acc H' it, items[j]? = some it → I j acc H' → wpCs C conds (ρ.upd x it) (fun ok H₁ =>
          if ok then wpE C elt (ρ.upd x it) (fun u H₂ => I (j + 1) (acc ++ [u]) H₂) H₁ else I (j + 1) acc H₁) H') ∧
        (∀ acc H', I items.length acc H' → newO (.list acc) Q H')
theorem wpE_comp {C : CallP} {elt : LE} {x : String} {kk : SrcK} {src : LE} {conds : List LE} {ρ : Env} {Q : V → Hp → Prop} {H : Hp} : wpE C (.comp elt x kk src conds) ρ Q H = wpE C src ρ (CompI C elt x kk conds ρ Q) H := rfl
theorem i_comp {C : CallP} {elt : LE} {x : String} {kk : SrcK} {src : LE} {conds : List LE} {ρ : Env} {Q : V → Hp → Prop} {H : Hp} (q : wpE C src ρ (CompI C elt x kk conds ρ Q) H) : wpE C (.comp elt x kk src conds) ρ Q H := q
theorem i_c0 {C : CallP} {ρ : Env} {Q : Bool → Hp → Prop} {H : Hp} (q : Q true H) : wpCs C [] ρ Q H := q
theorem i_c {C : CallP} {e : LE} {es : List LE} {ρ : Env} {Q : Bool → Hp → Prop} {H : Hp} (q : wpE C e ρ (fun v H => ∃ t, truthyV H v = some t ∧ (if t then wpCs C es ρ Q H else Q false H)) H) : wpCs C (e :: es) ρ Q H := q
theorem comp_pure {C : CallP} {elt : LE} {x : String} {kk : SrcK} {conds : List LE} {items : List V} {keep : Option Id} {ρ : Env} {H : Hp} {Q : V → Hp → Prop} {v : V} (p : V → Bool) (f : V → V) (hs : srcOf kk H v = some (items, keep))
    (hc : ∀ it ∈ items, ∀ Q' : Bool → Hp → Prop, Q' (p it) H → wpCs C conds (ρ.upd x it) Q' H) (he : ∀ it ∈ items, p it = true → ∀ Q' : V → Hp → Prop, Q' (f it) H → wpE C elt (ρ.upd x it) Q' H)
    (q : newO (.list ((items.filter p).map f)) Q H) : CompI C elt x kk conds ρ Q v H := by
  refine ⟨items, keep, hs, fun j acc H' => H' = H ∧ acc = ((items.take j).filter p).map f, ⟨rfl, by simp⟩, ?_, ?_, ?_⟩
  · rintro j acc H' ⟨rfl, rfl⟩
    refine ⟨by cases keep <;> simp [staysO], ?_⟩
    rw [List.length_map]
    exact Nat.le_trans (List.length_filter_le _ _) (by simp; lia)
  · rintro j acc H' it hit ⟨rfl, rfl⟩
    obtain ⟨hj, hit'⟩ := List.getElem?_eq_some_iff.mp hit
    have hm : it ∈ items := hit' ▸ List.getElem_mem hj
    have ht : items.take (j + 1) = items.take j ++ [it] := by rw [List.take_add_one, hit]; rfl
    refine hc it hm _ ?_
    cases hp : p it with
    | true =>
      simp only [if_true]
      refine he it hm hp _ ⟨rfl, ?_⟩
      rw [ht, List.filter_append, List.map_append]; simp [hp]
    | false =>
      simp only [Bool.false_eq_true, if_false]
      refine ⟨trivial, ?_⟩
      rw [ht, List.filter_append, List.map_append]; simp [hp]
  · rintro acc H' ⟨rfl, rfl⟩
    rw [List.take_length]; exact q
section
variable {H : Hp} {i : Id} {x : String} {u v : V} {c : Cls} {fs : List (String × V)} {ep : Nat} {es : List (Int × V)} {xs : List V} {k : Int}
theorem attr_of (h : H i = some (.inst c fs)) (hl : fs.lookup x = some u) : attrOf H (.obj i) x = some u := (congrArg (instF · x) h).trans hl
theorem put_of (h : H i = some (.inst c fs)) (hl : (putF fs x v).length ≤ 100) : putAttr H (.obj i) x v = some (H.set i (.inst c (putF fs x v))) := (congrArg (instP H i x v) h).trans (if_pos hl)
theorem idx_of (h : H i = some (.dict ep es)) (hl : getK es k = some u) : idxOf H (.obj i) (.int k) = some u := (congrArg (objI · k) h).trans hl
theorem dictP_at {α : Type} {o : Option O} {f : Nat → List (Int × V) → Option α} (h : o = some (.dict ep es)) : dictP o f = f ep es := by subst h; rfl
theorem listP_at {α : Type} {o : Option O} {f : List V → Option α} (h : o = some (.list xs)) : listP o f = f xs := by subst h; rfl
theorem puti_of (h : H i = some (.dict ep es)) (hl : (putK es k v).length ≤ LIM) : putIdx H (.obj i) (.int k) v = some (H.set i (.dict (if hasK es k then ep else ep + 1) (putK es k v))) := (dictP_at h).trans (if_pos hl)
theorem deli_of (h : H i = some (.dict ep es)) (hl : hasK es k = true) : delIdxH H (.obj i) (.int k) = some (H.set i (.dict (ep + 1) (delK es k))) := (dictP_at h).trans (if_pos hl)
theorem srcD (h : H i = some (.dict ep es)) : srcOf .plain H (.obj i) = some (es.map fun p => .int p.1, some i) := congrArg (srcP i) h
theorem srcL (h : H i = some (.list xs)) : srcOf .plain H (.obj i) = some (xs, some i) := congrArg (srcP i) h
theorem srcR (h : H i = some (.list xs)) : srcOf .rev H (.obj i) = some (xs.reverse, some i) := listP_at h
theorem srcV (h : H i = some (.dict ep es)) : srcOf .values H (.obj i) = some (es.map (·.2), some i) := dictP_at h
theorem srcE (h : H i = some (.list xs)) : srcOf .enum H (.obj i) = some (xs.zipIdx.map fun p => .tup [.int p.2, p.1], some i) := listP_at h
theorem truL (h : H i = some (.list xs)) : truthyV H (.obj i) = some (!xs.isEmpty) := listP_at h
theorem puti_set {es' : List (Int × V)} (h : H i = some (.dict ep es)) (e : putK es k v = es') (hl : es'.length ≤ LIM) : putIdx H (.obj i) (.int k) v = some (H.set i (.dict (if hasK es k then ep else ep + 1) es')) := by subst e; exact puti_of h hl
theorem Hp.sl {K : Hp} {k N : Nat} {o : O} (h : k ≠ N) : K.set (.loc N) o (.loc k) = K (.loc k) := if_neg fun e => h (Id.loc.inj e)
theorem Hp.lc {K : Hp} {k : Nat} {n : Int} {o : O} : K.set (.cell n) o (.loc k) = K (.loc k) := rfl
theorem Env.ne {ρ : Env} {x y : String} {v : V} (h : y ≠ x) : ρ.upd x v y = ρ y := if_neg h
theorem truN {α : Type} {f : α → V} {a : List α} (h : H i = some (.list (a.map f))) (ha : a ≠ []) : truthyV H (.obj i) = some true := (truL h).trans (by cases a with | nil => exact absurd rfl ha | cons _ _ => rfl)
theorem truS {α : Type} {f : α → V} {a : List α} {b : α} (h : H i = some (.list ((a ++ [b]).map f))) : truthyV H (.obj i) = some true := (truL h).trans (by rw [List.map_append]; cases a <;> rfl)
end
end Mine
end
noncomputable section
namespace Mine
open PySem PySem.W PyProof.Rows
noncomputable def putA (es : List (Int × Val)) (k : Int) (v : Val) : List (Int × Val) := if (es.lookup k).isSome then es.map (fun p => if p.1 = k then (p.1, v) else p) else es ++ [(k, v)]
noncomputable def delA (es : List (Int × Val)) (k : Int) : List (Int × Val) := es.filter fun p => decide (p.1 ≠ k)
theorem hasK_map {es : List (Int × Val)} {k : Int} : hasK (es.map sv) k = (es.lookup k).isSome := by
  induction es with
  | nil => rfl
  | cons p r ih =>
    obtain ⟨a, b⟩ := p
    unfold hasK at ih ⊢
    rw [List.map_cons, List.any_cons, List.lookup_cons, ih]
    by_cases h : a = k
    · subst h; simp
    · have h1 : (a == k) = false := by simpa using h
      have h2 : (k == a) = false := by simpa using Ne.symm h
      rw [h2]
      show ((a == k) || _) = _
      rw [h1]; rfl
theorem putK_map {es : List (Int × Val)} {k : Int} {v : Val} : putK (es.map sv) k v.toV = (putA es k v).map sv := by
  unfold putK putA
  rw [hasK_map]
  split
  · rw [List.map_map, List.map_map]
    refine List.map_congr_left fun p _ => ?_
    simp only [Function.comp]
    split <;> rfl
  · rw [List.map_append]; rfl
theorem delK_map {es : List (Int × Val)} {k : Int} : delK (es.map sv) k = (delA es k).map sv := by
  unfold delK delA
  rw [List.filter_map]; rfl
theorem putA_len {es : List (Int × Val)} {k : Int} {v : Val} : (putA es k v).length ≤ es.length + 1 := by
  unfold putA; split <;> simp
theorem delA_len {es : List (Int × Val)} {k : Int} : (delA es k).length ≤ es.length := List.length_filter_le _ _
theorem hasK_keys {ks : List Int} {k : Int} : hasK (ks.map fun n => (n, V.obj (.cell n))) k = decide (k ∈ ks) := by
  induction ks with
  | nil => rfl
  | cons a r ih =>
    unfold hasK at ih ⊢
    rw [List.map_cons, List.any_cons, ih]
    by_cases h : a = k
    · subst h; simp
    · simp [h, Ne.symm h]
theorem delK_keys {ks : List Int} {k : Int} : delK (ks.map fun n => (n, V.obj (.cell n))) k = (ks.filter fun n => decide (n ≠ k)).map fun n => (n, V.obj (.cell n)) := by
  unfold delK; rw [List.filter_map]; rfl
inductive Pl where | vars | cell (n : Int)
deriving DecidableEq
noncomputable def Pl.id : Pl → Id
  | .vars => .varsD
  | .cell n => .slots n
noncomputable def St.at (σ : St) : Pl → List (Int × Val)
  | .vars => σ.vars
  | .cell n => σ.slots n
noncomputable def St.ep (σ : St) : Pl → Nat
  | .vars => σ.vep
  | .cell n => σ.sep n
noncomputable def St.ok (σ : St) : Pl → Prop
  | .vars => True
  | .cell n => n ∈ σ.keys
noncomputable def St.to (σ : St) (p : Pl) (es : List (Int × Val)) (e : Nat) : St := match p with
  | .vars => { σ with vars := es, vep := e }
  | .cell n => { σ with slots := upd σ.slots n es, sep := upd σ.sep n e }
noncomputable def St.put (σ : St) (p : Pl) (k : Int) (v : Val) : St := σ.to p (putA (σ.at p) k v) (if ((σ.at p).lookup k).isSome then σ.ep p else σ.ep p + 1)
noncomputable def St.del (σ : St) (p : Pl) (k : Int) : St := σ.to p (delA (σ.at p) k) (σ.ep p + 1)
noncomputable def old (es : List (Int × Val)) (k : Int) : List Val := (es.lookup k).toList
theorem Rep.at {σ : St} {H : Hp} (R : Rep σ H) {p : Pl} (hp : σ.ok p) : H p.id = some (.dict (σ.ep p) ((σ.at p).map sv)) := by
  cases p with
  | vars => exact R.vars
  | cell n => exact R.slots n hp
theorem Rep.loc {σ : St} {H : Hp} (R : Rep σ H) (k : Nat) (o : O) : Rep σ (H.set (.loc k) o) := by
  obtain ⟨N, hN⟩ := R.fresh
  refine ⟨R.root, R.cells, R.vars, R.log, R.plan, R.tables, R.buf, R.bufN, R.cell, R.slots, R.nsl, R.new, max N (k + 1), fun j hj => ?_⟩
  have h1 : j ≠ k := by lia
  rw [Hp.set_ne _ _ (by simpa using h1)]
  exact hN j (by lia)
theorem Lk.loc {H : Hp} {k : Nat} (h : H (.loc k) = none) (o : O) : Lk H (H.set (.loc k) o) := fun j o' e => by
  have : j ≠ k := fun q => by subst q; rw [h] at e; cases e
  rw [Hp.set_ne _ _ (by simpa using this)]; exact e
theorem Rep.free {σ : St} {H : Hp} (R : Rep σ H) : ∃ N, H (.loc N) = none := let ⟨N, h⟩ := R.fresh; ⟨N, h N (Nat.le_refl _)⟩
theorem Lk.other {H : Hp} {i : Id} (h : ∀ k, i ≠ .loc k) (o : O) : Lk H (H.set i o) := fun j o' e => by
  rw [Hp.set_ne _ _ (Ne.symm (h j))]; exact e
theorem fresh_other {H : Hp} {i : Id} (h : ∀ k, i ≠ .loc k) (o : O) (f : ∃ N, ∀ k, N ≤ k → H (.loc k) = none) : ∃ N, ∀ k, N ≤ k → (H.set i o) (.loc k) = none :=
  let ⟨N, hN⟩ := f; ⟨N, fun k hk => by rw [Hp.set_ne _ _ (Ne.symm (h k))]; exact hN k hk⟩
theorem Rep.to {σ : St} {H : Hp} (R : Rep σ H) {p : Pl} (hp : σ.ok p) (hl : ∀ n ∈ σ.keys, n ≤ σ.last) (es : List (Int × Val)) (e : Nat) : Rep (σ.to p es e) (H.set p.id (.dict e (es.map sv))) := by
  cases p with
  | vars =>
    refine ⟨R.root, R.cells, rfl, R.log, R.plan, R.tables, R.buf, R.bufN, R.cell, R.slots, R.nsl, R.new, fresh_other (fun k e => by cases e) _ R.fresh⟩
  | cell n =>
    refine ⟨R.root, R.cells, R.vars, R.log, R.plan, R.tables, R.buf, R.bufN, R.cell, fun m hm => ?_, R.nsl, fun m hm => ?_, fresh_other (fun k e => by cases e) _ R.fresh⟩
    · show (if Id.slots m = Id.slots n then _ else _) = _
      by_cases h : m = n
      · subst h; simp [St.to, upd]
      · simp only [Id.slots.injEq, h, if_false]
        rw [R.slots m hm]; simp [St.to, upd, h]
    · have h : m ≠ n := fun q => by subst q; exact absurd (hl m hp) (by simpa [St.to] using Int.not_le.mpr hm)
      refine ⟨(R.new m hm).1, ?_, (R.new m hm).2.2⟩
      show (if Id.slots m = Id.slots n then _ else _) = _
      simp only [Id.slots.injEq, h, if_false]
      exact (R.new m hm).2.1
structure Wf (σ : St) : Prop where
  last : ∀ n ∈ σ.keys, n ≤ σ.last
  nkeys : σ.keys.length ≤ 200
  nlog : σ.log.length ≤ 1000
  nvars : σ.vars.length ≤ 200
  nbuf : σ.buffer.length ≤ 200
  nslots : ∀ n ∈ σ.keys, (σ.slots n).length ≤ 200
  ref : ∀ n ∈ σ.keys, σ.sort n = "ref" → ∃ v, σ.slots n = [(0, v)]
  ndk : σ.keys.Nodup
  ndv : (σ.vars.map (·.1)).Nodup
  nds : ∀ n ∈ σ.keys, ((σ.slots n).map (·.1)).Nodup
theorem lookup_nd {α : Type} {l : List (Int × α)} (hn : (l.map (·.1)).Nodup) {a : Int} {b : α} (h : (a, b) ∈ l) : l.lookup a = some b := by
  induction l with
  | nil => cases h
  | cons p r ih =>
    obtain ⟨c, d⟩ := p
    rw [List.map_cons, List.nodup_cons] at hn
    rw [List.lookup_cons]
    rcases List.mem_cons.mp h with e | e
    · cases e; simp
    · have : a ≠ c := fun q => hn.1 (q ▸ List.mem_map.mpr ⟨_, e, rfl⟩)
      have hb : (a == c) = false := by simpa using this
      rw [hb]; exact ih hn.2 e
theorem mem_of_lk {α : Type} {l : List (Int × α)} {a : Int} {b : α} (h : l.lookup a = some b) : (a, b) ∈ l := lookup_mem h
theorem Wf.ndat {σ : St} (W : Wf σ) {p : Pl} (hp : σ.ok p) : ((σ.at p).map (·.1)).Nodup := by
  cases p with
  | vars => exact W.ndv
  | cell n => exact W.nds n hp
theorem Wf.at {σ : St} (W : Wf σ) {p : Pl} (hp : σ.ok p) : (σ.at p).length ≤ 200 := by
  cases p with
  | vars => exact W.nvars
  | cell n => exact W.nslots n hp
noncomputable def isRef (σ : St) : Val → Bool
  | .int _ => false
  | .cell n => decide (n ∈ σ.keys) && σ.sort n == "ref"
noncomputable def slot0 (σ : St) (n : Int) : Val := ((σ.slots n).lookup 0).getD (.int 0)
noncomputable def inner (σ : St) : Val → Val
  | .int i => .int i
  | .cell n => if isRef σ (.cell n) then slot0 σ n else .cell n
noncomputable def look (es : List (Int × Val)) (k : Int) : Val := (es.lookup k).getD (.int 0)
noncomputable def valueOf (σ : St) (x : Int) : Val := inner σ (look σ.vars x)
section
variable {σ : St} {H : Hp} {k : Nat} {Q : V → Hp → Prop}
theorem Rep.r_cells (R : Rep σ H) : attrOf H (.obj .root) "cells" = some (.obj .cellsD) := attr_of R.root rfl
theorem Rep.r_vars (R : Rep σ H) : attrOf H (.obj .root) "vars" = some (.obj .varsD) := attr_of R.root rfl
theorem Rep.r_log (R : Rep σ H) : attrOf H (.obj .root) "log" = some (.obj .logL) := attr_of R.root rfl
theorem Rep.r_last (R : Rep σ H) : attrOf H (.obj .root) "last" = some (.int σ.last) := attr_of R.root rfl
theorem Rep.r_buffer (R : Rep σ H) : attrOf H (.obj .root) "buffer" = some (.obj (.buf σ.bid)) := attr_of R.root rfl
theorem Rep.r_freed (R : Rep σ H) : attrOf H (.obj .root) "freed" = some (.int σ.freed) := attr_of R.root rfl
theorem Rep.r_plan (R : Rep σ H) : attrOf H (.obj .root) "plan" = some (.obj .planD) := attr_of R.root rfl
theorem Rep.r_tables (R : Rep σ H) : attrOf H (.obj .root) "tables" = some (.obj .tablesL) := attr_of R.root rfl
theorem Rep.c_sort (R : Rep σ H) {n : Int} (hn : n ∈ σ.keys) : attrOf H (.obj (.cell n)) "sort" = some (.str (σ.sort n)) := attr_of (R.cell n hn) rfl
theorem Rep.c_number (R : Rep σ H) {n : Int} (hn : n ∈ σ.keys) : attrOf H (.obj (.cell n)) "number" = some (.int n) := attr_of (R.cell n hn) rfl
theorem Rep.c_count (R : Rep σ H) {n : Int} (hn : n ∈ σ.keys) : attrOf H (.obj (.cell n)) "count" = some (.int (σ.count n)) := attr_of (R.cell n hn) rfl
theorem Rep.c_slots (R : Rep σ H) {n : Int} (hn : n ∈ σ.keys) : attrOf H (.obj (.cell n)) "slots" = some (.obj (.slots n)) := attr_of (R.cell n hn) rfl
theorem Rep.c_colour (R : Rep σ H) {n : Int} (hn : n ∈ σ.keys) : attrOf H (.obj (.cell n)) "colour" = some (.str (σ.colour n)) := attr_of (R.cell n hn) rfl
theorem Rep.c_is_buffered (R : Rep σ H) {n : Int} (hn : n ∈ σ.keys) : attrOf H (.obj (.cell n)) "is_buffered" = some (.bool (σ.buffered n)) := attr_of (R.cell n hn) rfl
theorem Rep.c_has_destructor (R : Rep σ H) {n : Int} (hn : n ∈ σ.keys) : attrOf H (.obj (.cell n)) "has_destructor" = some (.bool (σ.hasD n)) := attr_of (R.cell n hn) rfl
theorem Rep.c_is_destructed (R : Rep σ H) {n : Int} (hn : n ∈ σ.keys) : attrOf H (.obj (.cell n)) "is_destructed" = some (.bool (σ.isD n)) := attr_of (R.cell n hn) rfl
theorem Rep.i_cells (R : Rep σ H) {n : Int} (hn : n ∈ σ.keys) : idxOf H (.obj .cellsD) (.int n) = some (.obj (.cell n)) := idx_of R.cells (getK_keys.trans (if_pos hn))
theorem toV_int (i : Int) : (Val.int i).toV = .tup [.str "int", .int i] := rfl
theorem toV_cell (i : Int) : (Val.cell i).toV = .tup [.str "cell", .int i] := rfl
theorem idx0 {H : Hp} {a : V} {r : List V} : idxOf H (.tup (a :: r)) (.int 0) = some a := rfl
theorem idx1 {H : Hp} {a b : V} {r : List V} : idxOf H (.tup (a :: b :: r)) (.int 1) = some b := rfl
theorem idx2 {H : Hp} {a b c : V} {r : List V} : idxOf H (.tup (a :: b :: c :: r)) (.int 2) = some c := rfl
theorem puti_map {H : Hp} {i : Id} {ep : Nat} {es : List (Int × Val)} {j : Int} {v : Val} (h : H i = some (.dict ep (es.map sv))) (hl : (putA es j v).length ≤ LIM) : putIdx H (.obj i) (.int j) v.toV = some (H.set i (.dict (if (es.lookup j).isSome = true then ep else ep + 1) ((putA es j v).map sv))) := by
  rw [← hasK_map]; exact puti_set h putK_map (by rw [List.length_map]; exact hl)
theorem Rep.src_cells (R : Rep σ H) : srcOf .plain H (.obj .cellsD) = some (σ.keys.map V.int, some .cellsD) := (srcD R.cells).trans (by rw [List.map_map]; rfl)
theorem Rep.i_slots (R : Rep σ H) {n : Int} (hn : n ∈ σ.keys) {j : Int} {v : Val} (hv : (σ.slots n).lookup j = some v) : idxOf H (.obj (.slots n)) (.int j) = some v.toV := idx_of (R.slots n hn) (by rw [getK_map, hv]; rfl)
theorem Rep.i_vars (R : Rep σ H) {j : Int} {v : Val} (hv : σ.vars.lookup j = some v) : idxOf H (.obj .varsD) (.int j) = some v.toV := idx_of R.vars (by rw [getK_map, hv]; rfl)
theorem d_get2 {i : Id} {ep : Nat} {es : List (Int × V)} {m : Int} {d : V} (h : H i = some (.dict ep es)) (q : Q ((getK es m).getD d) H) : methD .get i [.int m, d] Q H := ⟨ep, es, h, m, d, .inr rfl, q⟩
theorem d_get1 {i : Id} {ep : Nat} {es : List (Int × V)} {m : Int} (h : H i = some (.dict ep es)) (q : Q ((getK es m).getD .none) H) : methD .get i [.int m] Q H := ⟨ep, es, h, m, .none, .inl ⟨rfl, rfl⟩, q⟩
theorem sp_cell_of {v : Val} (R : Rep σ H) (q : Q (cellV σ v) H) : callP tab (k + 1) "cell_of" [.obj .root, v.toV] Q H := by
  refine c_fn rfl rfl ?_
  unfold b_cell_of
  cases v with
  | int i => exact s_ret (i_ite (i_cmp (i_idx (i_var rfl (i_int ⟨_, idx0, i_str (k_eqs (t := false) (by decide) (t_f rfl (i_none (r_ret q))))⟩)))))
  | cell n =>
    refine s_ret (i_ite (i_cmp (i_idx (i_var rfl (i_int ⟨_, idx0, i_str (k_eqs (t := true) (by decide) (t_t rfl ?_))⟩)))))
    refine i_methD (i := .cellsD) (fun _ p => i_attr (i_var rfl ⟨_, R.r_cells, p⟩)) R.cells (.inl rfl) (i_cons (i_idx (i_var rfl (i_int ⟨_, idx1, i_nil (d_get1 R.cells (r_ret ?_))⟩))))
    rw [getK_keys]
    have q : Q (if n ∈ σ.keys then .obj (.cell n) else .none) H := q
    by_cases hn : n ∈ σ.keys
    · rw [if_pos hn] at q ⊢; exact q
    · rw [if_neg hn] at q ⊢; exact q
theorem cellV_in {n : Int} (hn : n ∈ σ.keys) : cellV σ (.cell n) = .obj (.cell n) := if_pos hn
theorem cellV_out {n : Int} (hn : n ∉ σ.keys) : cellV σ (.cell n) = .none := if_neg hn
theorem sp_is_ref {v : Val} (R : Rep σ H) (q : Q (.bool (isRef σ v)) H) : callP tab (k + 2) "is_ref" [.obj .root, v.toV] Q H := by
  refine c_fn rfl rfl ?_
  unfold b_is_ref
  refine s_assign (i_call (i_cons (i_var rfl (i_cons (i_var rfl (i_nil (sp_cell_of R ?_)))))))
  refine s_ret (i_band (i_and (i_cmp (i_var rfl (i_none ?_)))))
  cases v with
  | int i => exact k_nn0 (t_f rfl (r_ret q))
  | cell n =>
    by_cases hn : n ∈ σ.keys
    · rw [cellV_in hn]
      refine k_nn (t_t rfl (i_and1 (i_cmp (i_attr (i_var rfl ⟨_, R.c_sort hn, i_str (k_eqs rfl (r_ret ?_))⟩)))))
      have e : isRef σ (.cell n) = (σ.sort n == "ref") := by simp [isRef, hn]; done
      rw [← e]; exact q
    · rw [cellV_out hn]
      have e : isRef σ (.cell n) = false := by simp [isRef, hn]
      rw [e] at q
      exact k_nn0 (t_f rfl (r_ret q))
theorem sp_inner {v : Val} (R : Rep σ H) (W : Wf σ) (q : Q (inner σ v).toV H) : callP tab (k + 3) "inner" [.obj .root, v.toV] Q H := by
  refine c_fn rfl rfl ?_
  unfold b_inner
  refine s_ret (i_ite (i_call (i_cons (i_var rfl (i_cons (i_var rfl (i_nil (sp_is_ref R ?_))))))))
  cases v with
  | int i => exact t_f rfl (i_var rfl (r_ret q))
  | cell n =>
    have q : Q (if isRef σ (.cell n) = true then slot0 σ n else .cell n).toV H := q
    cases hr : isRef σ (.cell n) with
    | false =>
      rw [hr] at q
      exact t_f rfl (i_var rfl (r_ret q))
    | true =>
      have hn : n ∈ σ.keys ∧ σ.sort n = "ref" := by simpa [isRef] using hr
      obtain ⟨u, hu⟩ := W.ref n hn.1 hn.2
      have hs : (σ.slots n).lookup 0 = some u := by rw [hu]; rfl
      have e : slot0 σ n = u := by unfold slot0; rw [hs]; rfl
      rw [hr, if_pos rfl] at q
      refine t_t rfl (i_idx (i_attr (i_idx (i_attr (i_var rfl ⟨_, R.r_cells, i_idx (i_var rfl (i_int ⟨_, idx1, _, R.i_cells hn.1, _, R.c_slots hn.1, i_int ⟨_, R.i_slots hn.1 hs, r_ret ?_⟩⟩))⟩)))))
      rw [← e]; exact q
theorem sp_value_of {x : Int} (R : Rep σ H) (W : Wf σ) (q : Q (valueOf σ x).toV H) : callP tab (k + 4) "value_of" [.obj .root, .int x] Q H := by
  refine c_fn rfl rfl ?_
  unfold b_value_of
  have e : (getK (σ.vars.map sv) x).getD (V.tup [V.str "int", V.int 0]) = (look σ.vars x).toV := by
    rw [getK_map]; unfold look; cases σ.vars.lookup x <;> rfl
  refine s_ret (i_call (i_cons (i_var rfl (i_cons (i_methD (i := .varsD) (fun _ p => i_attr (i_var rfl ⟨_, R.r_vars, p⟩)) R.vars (.inl rfl) (i_cons (i_var rfl (i_cons (i_tup (i_cons (i_str (i_cons (i_int (i_nil (i_nil (d_get2 R.vars (i_nil ?_)))))))))))))))))
  rw [e]
  exact sp_inner R W (r_ret q)
theorem Rep.recd {σ' : St} (R : Rep σ H) {n : Int} (hn : n ∈ σ.keys) (hl : n ≤ σ.last)
    (e1 : σ'.keys = σ.keys) (e2 : σ'.slots = σ.slots) (e3 : σ'.sep = σ.sep) (e4 : σ'.vars = σ.vars) (e5 : σ'.vep = σ.vep) (e6 : σ'.cep = σ.cep) (e7 : σ'.log = σ.log) (e8 : σ'.last = σ.last) (e9 : σ'.buffer = σ.buffer) (e10 : σ'.bid = σ.bid) (e11 : σ'.freed = σ.freed)
    (ho : ∀ m, m ≠ n → cellO σ' m = cellO σ m) : Rep σ' (H.set (.cell n) (cellO σ' n)) := by
  refine ⟨?_, ?_, ?_, ?_, R.plan, R.tables, ?_, ?_, fun m hm => ?_, fun m hm => ?_, fun m hm => ?_, fun m hm => ?_, fresh_other (fun k e => by cases e) _ R.fresh⟩
  · show H .root = _; rw [R.root]; simp [rootO, e8, e10, e11]
  · show H .cellsD = _; rw [R.cells, e6, e1]
  · show H .varsD = _; rw [R.vars, e5, e4]
  · show H .logL = _; rw [R.log, e7]
  · show H (.buf _) = _; rw [e10, R.buf, e9]
  · intro k hk; rw [e10] at hk; exact R.bufN k hk
  · rw [e1] at hm
    show (if Id.cell m = Id.cell n then _ else _) = _
    by_cases h : m = n
    · subst h; simp
    · simp only [Id.cell.injEq, h, if_false]; rw [R.cell m hm, ho m h]
  · rw [e1] at hm; show H (.slots m) = _; rw [R.slots m hm, e2, e3]
  · rw [e1] at hm; exact R.nsl m hm
  · rw [e8] at hm
    have h : m ≠ n := by lia
    refine ⟨?_, (R.new m hm).2⟩
    show (if Id.cell m = Id.cell n then _ else _) = _
    simp only [Id.cell.injEq, h, if_false]
    exact (R.new m hm).1
noncomputable def St.cnt (σ : St) (n : Int) (d : Int) : St := { σ with count := upd σ.count n (σ.count n + d) }
noncomputable def St.gain (σ : St) : Val → St
  | .int _ => σ
  | .cell n => σ.cnt n 1
theorem Rep.p_inc (R : Rep σ H) {n : Int} (hn : n ∈ σ.keys) : putAttr H (.obj (.cell n)) "count" (.int (σ.count n + 1)) = some (H.set (.cell n) (cellO (σ.cnt n 1) n)) := by
  have e := upd_self σ.count n (σ.count n + 1); unfold cellO St.cnt; dsimp only; rw [e]; exact put_of (R.cell n hn) (Nat.le_of_ble_eq_true rfl)
theorem Rep.p_dec (R : Rep σ H) {n : Int} (hn : n ∈ σ.keys) : putAttr H (.obj (.cell n)) "count" (.int (σ.count n - 1)) = some (H.set (.cell n) (cellO (σ.cnt n (-1)) n)) := by
  have e := upd_self σ.count n (σ.count n + -1); unfold cellO St.cnt; dsimp only; rw [e]; exact put_of (R.cell n hn) (Nat.le_of_ble_eq_true rfl)
theorem Rep.cnt (R : Rep σ H) (W : Wf σ) {n : Int} (hn : n ∈ σ.keys) (d : Int) : Rep (σ.cnt n d) (H.set (.cell n) (cellO (σ.cnt n d) n)) :=
  R.recd hn (W.last n hn) rfl rfl rfl rfl rfl rfl rfl rfl rfl rfl rfl fun m h => by unfold cellO St.cnt; dsimp only; rw [upd_ne _ _ h]
theorem Wf.cnt (W : Wf σ) (n d : Int) : Wf (σ.cnt n d) := ⟨W.last, W.nkeys, W.nlog, W.nvars, W.nbuf, W.nslots, W.ref, W.ndk, W.ndv, W.nds⟩
theorem Wf.gain (W : Wf σ) (v : Val) : Wf (σ.gain v) := by cases v <;> first | exact W | exact W.cnt _ _
noncomputable def okV (σ : St) : Val → Prop
  | .int _ => True
  | .cell n => n ∈ σ.keys
theorem sp_gain {v : Val} (R : Rep σ H) (W : Wf σ) (hv : okV σ v) (q : ∀ H', Rep (σ.gain v) H' → Lk H H' → Q v.toV H') : callP tab (k + 2) "gain" [.obj .root, v.toV] Q H := by
  refine c_fn rfl rfl ?_
  unfold b_gain
  refine s_assign (i_call (i_cons (i_var rfl (i_cons (i_var rfl (i_nil (sp_cell_of R ?_)))))))
  refine s_if (i_cmp (i_var rfl (i_none ?_)))
  cases v with
  | int i => exact k_nn0 (t_f rfl (s_nil (s_seq (s_ret (i_var rfl (r_ret (q H R (Lk.refl H))))))))
  | cell n =>
    have hn : n ∈ σ.keys := hv
    have hc : cellV σ (.cell n) = .obj (.cell n) := cellV_in hn
    rw [hc]
    exact k_nn (t_t rfl (s_aug (i_var rfl ⟨_, R.c_count hn, i_int (b_addi ⟨_, R.p_inc hn, s_nil (s_seq (s_ret (i_var rfl (r_ret (q _ (R.cnt W hn 1) (Lk.other (fun k e => by cases e) _))))))⟩)⟩)))
end
end Mine
end
open Mine
local macro_rules | `(tactic| walk_at "mf") => `(tactic| first | exact idx0 | exact idx1 | exact idx2 | with_reducible exact Rep.r_cells (by assumption) | with_reducible exact Rep.r_vars (by assumption) | with_reducible exact Rep.r_log (by assumption) | with_reducible exact Rep.r_last (by assumption) | with_reducible exact Rep.r_buffer (by assumption) | with_reducible exact Rep.r_freed (by assumption) | with_reducible exact Rep.r_plan (by assumption) | with_reducible exact Rep.r_tables (by assumption) | with_reducible exact Rep.i_cells (by assumption) (by assumption) | with_reducible exact Rep.c_sort (by assumption) (by assumption) | with_reducible exact Rep.c_number (by assumption) (by assumption) | with_reducible exact Rep.c_count (by assumption) (by assumption) | with_reducible exact Rep.c_slots (by assumption) (by assumption) | with_reducible exact Rep.c_colour (by assumption) (by assumption) | with_reducible exact Rep.c_is_buffered (by assumption) (by assumption) | with_reducible exact Rep.c_has_destructor (by assumption) (by assumption) | with_reducible exact Rep.c_is_destructed (by assumption) (by assumption))
local macro_rules | `(tactic| walk_at "m1") => `(tactic| first | with_reducible refine i_call ?_ | with_reducible refine i_cons ?_ | with_reducible refine i_nil ?_ | with_reducible refine i_attr ?_ | with_reducible refine i_idx ?_ | with_reducible refine i_cmp ?_ | with_reducible refine i_int ?_ | with_reducible refine i_str ?_ | with_reducible refine i_bool ?_ | with_reducible refine i_none ?_ | with_reducible refine i_bin ?_ | with_reducible refine i_tup ?_ | with_reducible refine i_list ?_ | with_reducible refine i_blt ?_ | ((with_reducible refine' i_var ?hv ?_); (case hv => first | assumption | exact rfl)) | with_reducible refine b_addi ?_ | with_reducible refine b_subi ?_ | with_reducible refine i_not ?_ | with_reducible refine i_band ?_ | with_reducible refine i_bor ?_ | with_reducible refine i_and ?_ | with_reducible refine i_or ?_ | with_reducible refine i_and1 ?_ | with_reducible refine i_or1 ?_ | with_reducible refine i_comp ?_ | with_reducible refine i_c ?_ | with_reducible refine i_c0 ?_ | with_reducible refine s_assign ?_ | with_reducible refine s_expr ?_ | with_reducible refine s_ret ?_ | with_reducible refine s_if ?_ | with_reducible refine s_nil ?_ | with_reducible refine s_seq ?_ | with_reducible refine s_seqr ?_ | with_reducible refine r_ret ?_ | with_reducible refine r_next ?_ | with_reducible refine tn_next ?_ | with_reducible refine tn_ret ?_ | with_reducible refine lp_ret ?_ | with_reducible refine s_attr ?_ | with_reducible refine s_aug ?_ | with_reducible refine s_for ?_ | ((with_reducible refine' t_t ?ht ?_); (case ht => exact rfl)) | ((with_reducible refine' t_f ?ht ?_); (case ht => exact rfl)) | with_reducible refine it_f ?_ | with_reducible refine it_t ?_ | ((with_reducible refine' t_any ?ht ?_); (case ht => exact rfl)) | ((with_reducible refine' Exists.intro _ (And.intro ?hm ?_)); (case hm => walk_at "mf")) | fail "no step")
local macro_rules | `(tactic| walk_at "mw") => `(tactic| repeat' walk_at "m1")
noncomputable section
namespace Mine
open PySem PySem.W PyProof.Rows
theorem Hp.set_set (H : Hp) (i : Id) (a b : O) : (H.set i a).set i b = H.set i b := by
  funext j; unfold Hp.set; split <;> rfl
noncomputable def hvals (σ : St) (n : Int) : List Val := (σ.slots n).map (·.2)
section
variable {σ : St} {H : Hp} {k : Nat} {Q : V → Hp → Prop}
theorem new_loc (R : Rep σ H) (xs : List V) (q : ∀ N H', Rep σ H' → Lk H H' → H (.loc N) = none → H' = H.set (.loc N) (.list xs) → Q (.obj (.loc N)) H') : newO (.list xs) Q H := by
  obtain ⟨N, hN⟩ := R.free
  exact ⟨.loc N, hN, q N _ (R.loc N _) (Lk.loc hN _) hN rfl⟩
theorem sp_held_by {n : Int} (R : Rep σ H) (W : Wf σ) (hn : n ∈ σ.keys)
    (q : ∀ N H', Rep σ H' → Lk H H' → H (.loc N) = none → H' (.loc N) = some (.list ((hvals σ n).map Val.toV)) → Q (.obj (.loc N)) H') : callP tab (k + 1) "held_by" [.obj .root, .obj (.cell n)] Q H := by
  refine c_fn rfl rfl ?_
  unfold b_held_by
  refine s_assign (i_comp (i_attr (i_var rfl ⟨_, R.r_tables, comp_pure (fun _ => true) id (srcL R.tables) (fun _ h => nomatch h) (fun _ h => nomatch h) (new_loc R [] fun N H1 R1 L1 hN e1 => ?_)⟩)))
  obtain ⟨I, hI⟩ : ∃ I : Nat → Env → Hp → Prop, I = fun j ρ' H' => ρ' "cell" = some (.obj (.cell n)) ∧ ρ' "found" = some (.obj (.loc N)) ∧ H' = H.set (.loc N) (.list (((hvals σ n).map Val.toV).take j)) := ⟨_, rfl⟩
  have hsz : (((σ.slots n).map sv).map fun p => V.int p.1).length = (hvals σ n).length := by rw [List.length_map, List.length_map]; unfold hvals; rw [List.length_map]
  refine s_for (i_attr (i_var rfl ⟨_, R1.c_slots hn, for_i I (srcD (R1.slots n hn)) (hI ▸ ⟨rfl, rfl, e1⟩) (fun j ρ' H' h => ?_) (fun j ρ' H' it hit h => ?_) fun ρ' H' h => ?_⟩))
  · rw [hI] at h; obtain ⟨_, _, rfl⟩ := h
    exact ((R.loc _ _).slots n hn).trans (R1.slots n hn).symm
  · rw [hI] at h; obtain ⟨h1, h2, rfl⟩ := h
    rw [List.getElem?_map, List.getElem?_map] at hit
    obtain ⟨p', hp', rfl⟩ := Option.map_eq_some_iff.mp hit
    obtain ⟨p, hp, rfl⟩ := Option.map_eq_some_iff.mp hp'
    obtain ⟨hj, e⟩ := List.getElem?_eq_some_iff.mp hp
    have R2 : Rep σ (H.set (.loc N) (.list (((hvals σ n).map Val.toV).take j))) := R.loc _ _
    have hlk : (σ.slots n).lookup p.1 = some p.2 := lookup_nd (W.nds n hn) (e ▸ List.getElem_mem hj)
    have hlen : (((hvals σ n).map Val.toV).take j).length + 1 ≤ LIM := Nat.succ_le_of_lt (Nat.lt_of_le_of_lt (List.length_take_le _ _) (Nat.lt_of_lt_of_le hj (Nat.le_trans (W.nslots n hn) (by decide))))
    refine ⟨_, rfl, s_expr (i_methL (m := .append) (i := .loc N) (fun _ q => i_var h2 q) (Hp.set_self _ _ _) rfl (i_cons (i_idx (i_attr (i_var h1 ⟨_, R2.c_slots hn, i_var rfl ⟨_, R2.i_slots hn hlk, i_nil (l_app (Hp.set_self _ _ _) hlen (s_nil (tn_next (hI ▸ ⟨h1, h2, ?_⟩))))⟩⟩)))))⟩
    rw [Hp.set_set, List.take_add_one, List.getElem?_map, show (hvals σ n)[j]? = some p.2 from by unfold hvals; rw [List.getElem?_map, hp]; rfl]; rfl
  · rw [hI, hsz] at h; obtain ⟨h1, h2, rfl⟩ := h
    refine s_ret (i_var h2 (r_ret (q N _ (R.loc _ _) (Lk.loc hN _) hN ?_)))
    rw [Hp.set_self, ← List.length_map (f := Val.toV), List.take_length]
theorem d_pop {i : Id} {ep : Nat} {es : List (Int × V)} {m : Int} {v : V} (h : H i = some (.dict ep es)) (hv : getK es m = some v) (q : Q v (H.set i (.dict (ep + 1) (delK es m)))) : methD .pop i [.int m] Q H := ⟨ep, es, h, m, v, rfl, hv, q⟩
theorem sp_replaced {p : Pl} {j : Int} {v : Val} (R : Rep σ H) (W : Wf σ) (hp : σ.ok p)
    (q : ∀ N H', Rep (σ.put p j v) H' → Lk H H' → H (.loc N) = none → H' (.loc N) = some (.list ((old (σ.at p) j).map Val.toV)) → Q (.obj (.loc N)) H') : callP tab (k + 1) "replaced" [.obj p.id, .int j, v.toV] Q H := by
  refine c_fn rfl rfl ?_
  have hat := R.at hp
  unfold b_replaced
  have fin : ∀ N H1, Rep σ H1 → Lk H H1 → H (.loc N) = none → H1 = H.set (.loc N) (.list ((old (σ.at p) j).map Val.toV)) →
      ∃ H', putIdx H1 (.obj p.id) (.int j) v.toV = some H' ∧ Q (.obj (.loc N)) H' := fun N H1 R1 L1 hN e1 => by
    have hat1 := R1.at hp
    have hl : (putA (σ.at p) j v).length ≤ LIM := by
      have := W.at hp; have := @putA_len (σ.at p) j v; unfold LIM; lia
    have e2 : putIdx H1 (.obj p.id) (.int j) v.toV = some (H1.set p.id (.dict (if ((σ.at p).lookup j).isSome = true then σ.ep p else σ.ep p + 1) ((putA (σ.at p) j v).map sv))) := by
      rw [puti_of hat1 (by rw [putK_map, List.length_map]; exact hl), putK_map, hasK_map]
    refine ⟨_, e2, ?_⟩
    refine q N _ (R1.to hp W.last _ _) (L1.trans (Lk.other (by intro k e; cases p <;> cases e) _)) hN ?_
    rw [Hp.set_ne _ _ (by intro e; cases p <;> cases e), e1, Hp.set_self]
  cases hl : (σ.at p).lookup j with
  | none =>
    refine s_assign (i_ite (i_cmp (i_var rfl (i_var rfl (k_inD hat (t := false) (by rw [hasK_map, hl]; rfl) (t_f rfl (i_list (i_nil (new_loc R [] fun N H1 R1 L1 hN e1 => ?_)))))))))
    obtain ⟨H', e2, q'⟩ := fin N H1 R1 L1 hN (by rw [e1]; unfold old; rw [hl]; rfl)
    exact s_idx (i_var rfl (i_var rfl (i_var rfl ⟨_, e2, s_ret (i_var rfl (r_ret q'))⟩)))
  | some u =>
    have hi : idxOf H (.obj p.id) (.int j) = some u.toV := idx_of hat (by rw [getK_map, hl]; rfl)
    refine s_assign (i_ite (i_cmp (i_var rfl (i_var rfl (k_inD hat (t := true) (by rw [hasK_map, hl]; rfl) (t_t rfl (i_list (i_cons (i_idx (i_var rfl (i_var rfl ⟨_, hi, i_nil (new_loc R _ fun N H1 R1 L1 hN e1 => ?_)⟩)))))))))))
    obtain ⟨H', e2, q'⟩ := fin N H1 R1 L1 hN (by rw [e1]; unfold old; rw [hl]; rfl)
    exact s_idx (i_var rfl (i_var rfl (i_var rfl ⟨_, e2, s_ret (i_var rfl (r_ret q'))⟩)))
theorem sp_taken_out {p : Pl} {j : Int} (R : Rep σ H) (W : Wf σ) (hp : σ.ok p)
    (q1 : (σ.at p).lookup j = none → ∀ N H', Rep σ H' → Lk H H' → H (.loc N) = none → H' (.loc N) = some (.list []) → Q (.obj (.loc N)) H')
    (q2 : ∀ u, (σ.at p).lookup j = some u → ∀ N H', Rep (σ.del p j) H' → Lk H H' → H (.loc N) = none → H' (.loc N) = some (.list [u.toV]) → Q (.obj (.loc N)) H') : callP tab (k + 1) "taken_out" [.obj p.id, .int j] Q H := by
  refine c_fn rfl rfl ?_
  have hat := R.at hp
  unfold b_taken_out
  cases hl : (σ.at p).lookup j with
  | none =>
    refine s_ret (i_ite (i_cmp (i_var rfl (i_var rfl (k_inD hat (t := false) (by rw [hasK_map, hl]; rfl) (t_f rfl (i_list (i_nil (new_loc R [] fun N H1 R1 L1 hN e1 => ?_)))))))))
    refine r_ret ?_
    exact q1 hl N H1 R1 L1 hN (by rw [e1, Hp.set_self])
  | some u =>
    refine s_ret (i_ite (i_cmp (i_var rfl (i_var rfl (k_inD hat (t := true) (by rw [hasK_map, hl]; rfl) (t_t rfl (i_list (i_cons ?_))))))))
    refine i_methD (i := p.id) (fun _ q => i_var rfl q) hat (.inr rfl) (i_cons (i_var rfl (i_nil (d_pop (v := u.toV) hat (by rw [getK_map, hl]; rfl) (i_nil ?_)))))
    rw [delK_map]
    have R1 := R.to hp W.last (delA (σ.at p) j) (σ.ep p + 1)
    refine new_loc R1 _ fun N H2 R2 L2 hN e2 => ?_
    have L1 : Lk H (H.set p.id (.dict (σ.ep p + 1) ((delA (σ.at p) j).map sv))) := Lk.other (by intro k e; cases p <;> cases e) _
    refine r_ret ?_
    refine q2 u hl N H2 R2 (L1.trans L2) ?_ (by rw [e2, Hp.set_self])
    rw [Hp.set_ne _ _ (by intro e; cases p <;> cases e)] at hN
    exact hN
end
end Mine
end
noncomputable section
namespace Mine
open PySem PySem.W PyProof.Rows
theorem Hp.set_apply (H : Hp) (i j : Id) (o : O) : (H.set i o) j = if j = i then some o else H j := rfl
noncomputable def St.newCell (σ : St) (s : String) : St :=
  { σ with last := σ.last + 1, keys := σ.keys ++ [σ.last + 1], cep := σ.cep + 1, sort := upd σ.sort (σ.last + 1) s, count := upd σ.count (σ.last + 1) 0, slots := upd σ.slots (σ.last + 1) [], sep := upd σ.sep (σ.last + 1) 0, colour := upd σ.colour (σ.last + 1) "black", buffered := upd σ.buffered (σ.last + 1) false, hasD := upd σ.hasD (σ.last + 1) false, isD := upd σ.isD (σ.last + 1) false }
section
variable {σ : St} {H : Hp} {k : Nat} {Q : V → Hp → Prop}
theorem Rep.newCell (R : Rep σ H) (W : Wf σ) {s : String} {H' : Hp} (h1 : H' .root = some (rootO (σ.newCell s))) (h2 : H' .cellsD = some (.dict (σ.cep + 1) ((σ.keys ++ [σ.last + 1]).map fun n => (n, V.obj (.cell n))))) (h3 : H' (.cell (σ.last + 1)) = some (cellO (σ.newCell s) (σ.last + 1)))
    (h4 : H' (.slots (σ.last + 1)) = some (.dict 0 [])) (h5 : ∀ j, j ≠ .root → j ≠ .cellsD → j ≠ .cell (σ.last + 1) → j ≠ .slots (σ.last + 1) → H' j = H j) : Rep (σ.newCell s) H' := by
  have ne : ∀ n ∈ σ.keys, n ≠ σ.last + 1 := fun n hn e => by have := W.last n hn; lia
  refine ⟨h1, h2, (h5 _ (by simp) (by simp) (by simp) (by simp)).trans R.vars, (h5 _ (by simp) (by simp) (by simp) (by simp)).trans R.log, (h5 _ (by simp) (by simp) (by simp) (by simp)).trans R.plan, (h5 _ (by simp) (by simp) (by simp) (by simp)).trans R.tables, (h5 _ (by simp) (by simp) (by simp) (by simp)).trans R.buf,
    fun k hk => (h5 _ (by simp) (by simp) (by simp) (by simp)).trans (R.bufN k hk), fun n hn => ?_, fun n hn => ?_, fun n hn => ?_, fun n hn => ?_, ?_⟩
  · rcases List.mem_append.mp hn with hn | hn
    · have := ne n hn
      rw [h5 _ (by simp) (by simp) (by simpa using this) (by simp), R.cell n hn]
      simp [cellO, St.newCell, upd, this]
    · rw [List.mem_singleton.mp hn]; exact h3
  · rcases List.mem_append.mp hn with hn | hn
    · have := ne n hn
      rw [h5 _ (by simp) (by simp) (by simp) (by simpa using this), R.slots n hn]
      simp [St.newCell, upd, this]
    · rw [List.mem_singleton.mp hn, h4]; simp [St.newCell, upd]
  · rcases List.mem_append.mp hn with hn | hn
    · rw [h5 _ (by simp) (by simp) (by simp) (by simp)]; exact R.nsl n hn
    · rw [List.mem_singleton.mp hn, h5 _ (by simp) (by simp) (by simp) (by simp)]; exact (R.new _ (by lia)).2.2
  · have hn' : σ.last + 1 < n := hn
    have := R.new n (by lia)
    have e : n ≠ σ.last + 1 := by lia
    rw [h5 (.cell n) (by simp) (by simp) (by simpa using e) (by simp), h5 (.slots n) (by simp) (by simp) (by simp) (by simpa using e), h5 (.nslots n) (by simp) (by simp) (by simp) (by simp)]
    exact this
  · obtain ⟨N, hN⟩ := R.fresh
    exact ⟨N, fun k hk => (h5 _ (by simp) (by simp) (by simp) (by simp)).trans (hN k hk)⟩
theorem ci_put {K : Hp} {i : Id} {c : Cls} {fs : List (String × V)} {x : String} {v : V} (h : K i = some (.inst c fs)) (hl : (putF fs x v).length ≤ 100) : putAttr K (.obj i) x v = some (K.set i (.inst c (putF fs x v))) := put_of h hl
theorem ci_puts2 {K : Hp} {i : Id} {c : Cls} {fs : List (String × V)} {x y : String} {v w : V} (h : K i = some (.inst c fs)) (hl : (putF fs x v).length ≤ 100) (hl2 : (putF (putF fs x v) y w).length ≤ 100) :
    putAttrs K (.obj i) [x, y] [v, w] = some ((K.set i (.inst c (putF fs x v))).set i (.inst c (putF (putF fs x v) y w))) := Option.bind_eq_some_iff.mpr ⟨_, put_of h hl, Option.bind_eq_some_iff.mpr ⟨_, put_of (Hp.set_self _ _ _) hl2, rfl⟩⟩
theorem sp_Cell {s : String} {n : Int} (h1 : H (.cell n) = none) (h2 : H (.slots n) = none)
    (q : ∀ H', H' (.cell n) = some (.inst .cell [("sort", .str s), ("number", .int n), ("count", .int 0), ("slots", .obj (.slots n)), ("colour", .str "black"), ("is_buffered", .bool false), ("has_destructor", .bool false), ("is_destructed", .bool false), ("is_freed", .bool false), ("weak", .none)]) →
      H' (.slots n) = some (.dict 0 []) → (∀ i, i ≠ .cell n → i ≠ .slots n → H' i = H i) → Q (.obj (.cell n)) H') : callP tab (k + 1) "Cell" [.str s, .int n] Q H := by
  refine c_cls (i := .cell n) rfl h1 rfl ?_
  unfold b_Cell_init
  have c0 := Hp.set_self H (.cell n) (.inst .cell [])
  have o0 : ∀ i, i ≠ .cell n → (H.set (.cell n) (.inst .cell [])) i = H i := fun i h => Hp.set_ne _ _ h
  generalize H.set (.cell n) (.inst .cell []) = K0 at c0 o0 ⊢
  refine s_attrs (i_tup (i_cons (i_var rfl (i_cons (i_var rfl (i_nil ⟨_, _, _, rfl, rfl, ci_puts2 c0 (Nat.le_of_ble_eq_true rfl) (Nat.le_of_ble_eq_true rfl), ?_⟩))))))
  rw [Hp.set_set]
  have c1 := Hp.set_self K0 (.cell n) (.inst .cell [("sort", .str s), ("number", .int n)])
  have o1 : ∀ i, i ≠ .cell n → (K0.set (.cell n) (.inst .cell [("sort", .str s), ("number", .int n)])) i = H i := fun i h => (Hp.set_ne _ _ h).trans (o0 i h)
  show wpSs _ _ _ _ (K0.set (.cell n) (.inst .cell [("sort", .str s), ("number", .int n)]))
  generalize K0.set (.cell n) (.inst .cell [("sort", .str s), ("number", .int n)]) = K1 at c1 o1 ⊢
  refine s_attr (i_int (i_var rfl ⟨_, ci_put c1 (Nat.le_of_ble_eq_true rfl), ?_⟩))
  have c2 := Hp.set_self K1 (.cell n) (.inst .cell [("sort", .str s), ("number", .int n), ("count", .int 0)])
  have o2 : ∀ i, i ≠ .cell n → (K1.set (.cell n) (.inst .cell [("sort", .str s), ("number", .int n), ("count", .int 0)])) i = H i := fun i h => (Hp.set_ne _ _ h).trans (o1 i h)
  show wpSs _ _ _ _ (K1.set (.cell n) (.inst .cell [("sort", .str s), ("number", .int n), ("count", .int 0)]))
  generalize K1.set (.cell n) (.inst .cell [("sort", .str s), ("number", .int n), ("count", .int 0)]) = K2 at c2 o2 ⊢
  refine s_attr (i_dict ⟨.slots n, (o2 _ (by intro h; cases h)).trans h2, i_var rfl ⟨_, ci_put ((Hp.set_ne _ _ (by intro h; cases h)).trans c2) (Nat.le_of_ble_eq_true rfl), ?_⟩⟩)
  have c3 := Hp.set_self (K2.set (.slots n) (.dict 0 [])) (.cell n) (.inst .cell [("sort", .str s), ("number", .int n), ("count", .int 0), ("slots", .obj (.slots n))])
  have s3 : ((K2.set (.slots n) (.dict 0 [])).set (.cell n) (.inst .cell [("sort", .str s), ("number", .int n), ("count", .int 0), ("slots", .obj (.slots n))])) (.slots n) = some (.dict 0 []) := (Hp.set_ne _ _ (by intro h; cases h)).trans (Hp.set_self _ _ _)
  have o3 : ∀ i, i ≠ .cell n → i ≠ .slots n → ((K2.set (.slots n) (.dict 0 [])).set (.cell n) (.inst .cell [("sort", .str s), ("number", .int n), ("count", .int 0), ("slots", .obj (.slots n))])) i = H i := fun i h h' => (Hp.set_ne _ _ h).trans ((Hp.set_ne _ _ h').trans (o2 i h))
  show wpSs _ _ _ _ ((K2.set (.slots n) (.dict 0 [])).set (.cell n) (.inst .cell [("sort", .str s), ("number", .int n), ("count", .int 0), ("slots", .obj (.slots n))]))
  generalize (K2.set (.slots n) (.dict 0 [])).set (.cell n) (.inst .cell [("sort", .str s), ("number", .int n), ("count", .int 0), ("slots", .obj (.slots n))]) = K3 at c3 s3 o3 ⊢
  have stp : ∀ (K K' : Hp) (o : O), K' = K.set (.cell n) o → K (.slots n) = some (.dict 0 []) → (∀ i, i ≠ .cell n → i ≠ .slots n → K i = H i) → K' (.cell n) = some o ∧ K' (.slots n) = some (.dict 0 []) ∧ ∀ i, i ≠ .cell n → i ≠ .slots n → K' i = H i := by
    rintro K _ o rfl a b
    exact ⟨Hp.set_self _ _ _, (Hp.set_ne _ _ (by intro h; cases h)).trans a, fun i h h' => (Hp.set_ne _ _ h).trans (b i h h')⟩
  refine s_attrs (i_tup (i_cons (i_str (i_cons (i_bool (i_nil ⟨_, _, _, rfl, rfl, ci_puts2 c3 (Nat.le_of_ble_eq_true rfl) (Nat.le_of_ble_eq_true rfl), ?_⟩))))))
  rw [Hp.set_set]
  obtain ⟨K4, h4⟩ : ∃ K4, K4 = K3.set (.cell n) (.inst .cell [("sort", .str s), ("number", .int n), ("count", .int 0), ("slots", .obj (.slots n)), ("colour", .str "black"), ("is_buffered", .bool false)]) := ⟨_, rfl⟩
  show wpSs _ _ _ _ (K3.set (.cell n) (.inst .cell [("sort", .str s), ("number", .int n), ("count", .int 0), ("slots", .obj (.slots n)), ("colour", .str "black"), ("is_buffered", .bool false)]))
  rw [← h4]
  obtain ⟨c4, s4, o4⟩ := stp _ _ _ h4 s3 o3
  refine s_attrs (i_tup (i_cons (i_bool (i_cons (i_bool (i_nil ⟨_, _, _, rfl, rfl, ci_puts2 c4 (Nat.le_of_ble_eq_true rfl) (Nat.le_of_ble_eq_true rfl), ?_⟩))))))
  rw [Hp.set_set]
  obtain ⟨K5, h5⟩ : ∃ K5, K5 = K4.set (.cell n) (.inst .cell [("sort", .str s), ("number", .int n), ("count", .int 0), ("slots", .obj (.slots n)), ("colour", .str "black"), ("is_buffered", .bool false), ("has_destructor", .bool false), ("is_destructed", .bool false)]) := ⟨_, rfl⟩
  show wpSs _ _ _ _ (K4.set (.cell n) (.inst .cell [("sort", .str s), ("number", .int n), ("count", .int 0), ("slots", .obj (.slots n)), ("colour", .str "black"), ("is_buffered", .bool false), ("has_destructor", .bool false), ("is_destructed", .bool false)]))
  rw [← h5]
  obtain ⟨c5, s5, o5⟩ := stp _ _ _ h5 s4 o4
  refine s_attr (i_bool (i_var rfl ⟨_, ci_put c5 (Nat.le_of_ble_eq_true rfl), ?_⟩))
  obtain ⟨K6, h6⟩ : ∃ K6, K6 = K5.set (.cell n) (.inst .cell [("sort", .str s), ("number", .int n), ("count", .int 0), ("slots", .obj (.slots n)), ("colour", .str "black"), ("is_buffered", .bool false), ("has_destructor", .bool false), ("is_destructed", .bool false), ("is_freed", .bool false)]) := ⟨_, rfl⟩
  show wpSs _ _ _ _ (K5.set (.cell n) (.inst .cell [("sort", .str s), ("number", .int n), ("count", .int 0), ("slots", .obj (.slots n)), ("colour", .str "black"), ("is_buffered", .bool false), ("has_destructor", .bool false), ("is_destructed", .bool false), ("is_freed", .bool false)]))
  rw [← h6]
  obtain ⟨c6, s6, o6⟩ := stp _ _ _ h6 s5 o5
  refine s_attr (i_none (i_var rfl ⟨_, ci_put c6 (Nat.le_of_ble_eq_true rfl), s_nil (in_next ?_)⟩))
  obtain ⟨c7, s7, o7⟩ := stp _ _ _ rfl s6 o6
  exact q _ c7 s7 o7
theorem sp_new_cell {s : String} (R : Rep σ H) (W : Wf σ) (q : ∀ H', Rep (σ.newCell s) H' → Lk H H' → Q (.tup [.str "cell", .int (σ.last + 1)]) H') : callP tab (k + 2) "new_cell" [.obj .root, .str s] Q H := by
  refine c_fn rfl rfl ?_
  unfold b_new_cell
  obtain ⟨n1, n2, n3⟩ := R.new (σ.last + 1) (by lia)
  have hl : (putK (σ.keys.map fun n => (n, V.obj (.cell n))) (σ.last + 1) (.obj (.cell (σ.last + 1)))) = (σ.keys ++ [σ.last + 1]).map fun n => (n, V.obj (.cell n)) := by
    unfold putK
    rw [hasK_keys, if_neg]
    · simp
    · simp only [decide_eq_true_eq]; intro h; have := W.last _ h; lia
  have hk : hasK (σ.keys.map fun n => (n, V.obj (.cell n))) (σ.last + 1) = false := by
    rw [hasK_keys]; simp only [decide_eq_false_iff_not]; intro h; have := W.last _ h; lia
  have hlen : ((σ.keys ++ [σ.last + 1]).map fun n => (n, V.obj (.cell n))).length ≤ LIM := by
    have := W.nkeys
    simp only [List.length_map, List.length_append, List.length_cons, List.length_nil]
    unfold LIM; lia
  refine s_aug (i_var rfl ⟨_, R.r_last, i_int (b_addi ⟨_, ci_put R.root (Nat.le_of_ble_eq_true rfl), ?_⟩)⟩)
  have r1 : (H.set .root (rootO (σ.newCell s))) .root = some (rootO (σ.newCell s)) := Hp.set_self _ _ _
  have o1 : ∀ i, i ≠ .root → (H.set .root (rootO (σ.newCell s))) i = H i := fun i h => Hp.set_ne _ _ h
  show wpSs _ _ _ _ (H.set .root (rootO (σ.newCell s)))
  generalize H.set .root (rootO (σ.newCell s)) = H1 at r1 o1 ⊢
  have a1 : ∀ K : Hp, K .root = some (rootO (σ.newCell s)) → attrOf K (.obj .root) "last" = some (.int (σ.last + 1)) := fun K h => attr_of h rfl
  have a2 : ∀ K : Hp, K .root = some (rootO (σ.newCell s)) → attrOf K (.obj .root) "cells" = some (.obj .cellsD) := fun K h => attr_of h rfl
  refine s_idx (i_call (i_cons (i_var rfl (i_cons (i_attr (i_var rfl ⟨_, a1 _ r1, i_nil (sp_Cell ((o1 _ (by intro h; cases h)).trans n1) ((o1 _ (by intro h; cases h)).trans n2) fun H2 c2 s2 o2 => ?_)⟩))))))
  have r2 : H2 .root = some (rootO (σ.newCell s)) := (o2 _ (by intro h; cases h) (by intro h; cases h)).trans r1
  have d2 : H2 .cellsD = some (.dict σ.cep (σ.keys.map fun n => (n, V.obj (.cell n)))) := (o2 _ (by intro h; cases h) (by intro h; cases h)).trans ((o1 _ (by intro h; cases h)).trans R.cells)
  have hp : putIdx H2 (.obj .cellsD) (.int (σ.last + 1)) (.obj (.cell (σ.last + 1))) = some (H2.set .cellsD (.dict (σ.cep + 1) ((σ.keys ++ [σ.last + 1]).map fun n => (n, V.obj (.cell n))))) := by
    rw [puti_of d2 (by rw [hl]; exact hlen), hl, hk]; rfl
  have r3 := (Hp.set_ne H2 (i := .cellsD) (.dict (σ.cep + 1) ((σ.keys ++ [σ.last + 1]).map fun n => (n, V.obj (.cell n)))) (j := .root) (by intro h; cases h)).trans r2
  refine i_attr (i_var rfl ⟨_, a2 _ r2, i_attr (i_var rfl ⟨_, a1 _ r2, _, hp, s_ret (i_tup (i_cons (i_str (i_cons (i_attr (i_var rfl ⟨_, a1 _ r3, i_nil (r_ret (q _ (R.newCell W r3 (Hp.set_self _ _ _) ?_ ?_ ?_) ?_))⟩))))))⟩)⟩)
  · rw [Hp.set_ne _ _ (by intro h; cases h), c2]; unfold cellO St.newCell; simp only [upd, if_true]
  · rw [Hp.set_ne _ _ (by intro h; cases h)]; exact s2
  · intro j h1 h2 h3 h4; rw [Hp.set_ne _ _ h2, o2 _ h3 h4, o1 _ h1]
  · intro j o e; rw [Hp.set_ne _ _ (by intro h; cases h), o2 _ (by intro h; cases h) (by intro h; cases h), o1 _ (by intro h; cases h)]; exact e
theorem Wf.newCell (W : Wf σ) {s : String} (h : σ.keys.length + 1 ≤ 200) (hs : s ≠ "ref") : Wf (σ.newCell s) := by
  have ne : ∀ n ∈ σ.keys, n ≠ σ.last + 1 := fun n hn e => by have := W.last n hn; lia
  refine ⟨fun n hn => ?_, by simpa [St.newCell] using h, W.nlog, W.nvars, W.nbuf, fun n hn => ?_, fun n hn e => ?_, ?_, W.ndv, fun n hn => ?_⟩
  · show n ≤ σ.last + 1
    rcases List.mem_append.mp hn with hn | hn
    · have := W.last n hn; lia
    · rw [List.mem_singleton.mp hn]; exact Int.le_refl _
  · rcases List.mem_append.mp hn with hn | hn
    · simp only [St.newCell, upd, ne n hn, if_false]; exact W.nslots n hn
    · rw [List.mem_singleton.mp hn]; simp [St.newCell, upd]
  · rcases List.mem_append.mp hn with hn | hn
    · simp only [St.newCell, upd, ne n hn, if_false] at e ⊢; exact W.ref n hn e
    · rw [List.mem_singleton.mp hn] at e; simp [St.newCell, upd] at e; exact absurd e hs
  · show (σ.keys ++ [σ.last + 1]).Nodup
    exact List.nodup_append.mpr ⟨W.ndk, by simp, fun a ha b hb e => by rw [List.mem_singleton.mp hb] at e; exact ne a ha e⟩
  · rcases List.mem_append.mp hn with hn | hn
    · simp only [St.newCell, upd, ne n hn, if_false]; exact W.nds n hn
    · rw [List.mem_singleton.mp hn]; simp [St.newCell, upd]
end
end Mine
end
noncomputable section
namespace Mine
open PySem PySem.W PyProof.Rows
noncomputable def wtgt (σ : St) (p : Pl) (j : Int) : Pl × Int := match (σ.at p).lookup j with
  | some (.cell n) => if isRef σ (.cell n) then (.cell n, 0) else (p, j)
  | _ => (p, j)
noncomputable def written (σ : St) (p : Pl) (j : Int) (v : Val) : St × List Val := (σ.put (wtgt σ p j).1 (wtgt σ p j).2 v, old (σ.at (wtgt σ p j).1) (wtgt σ p j).2)
noncomputable def refIn (σ : St) (p : Pl) (j : Int) : St × Val :=
  let held := look (σ.at p) j
  if isRef σ held then (σ, held) else
    ((((σ.newCell "ref").put (.cell (σ.last + 1)) 0 held).cnt (σ.last + 1) 1).put p j (.cell (σ.last + 1)), .cell (σ.last + 1))
noncomputable def inCopy (σ : St) (c : Int) : Val → Val
  | .int i => .int i
  | .cell n => if isRef σ (.cell n) && !decide (σ.count n > 1) && !decide (slot0 σ n = .cell c) then slot0 σ n else .cell n
section
variable {σ : St} {H : Hp} {k : Nat} {Q : V → Hp → Prop}
theorem isRef_iff {n : Int} : isRef σ (.cell n) = true ↔ n ∈ σ.keys ∧ σ.sort n = "ref" := by simp [isRef]
theorem sp_written {p : Pl} {j : Int} {v : Val} (R : Rep σ H) (W : Wf σ) (hp : σ.ok p)
    (q : ∀ N H', Rep (written σ p j v).1 H' → Lk H H' → H (.loc N) = none → H' (.loc N) = some (.list ((written σ p j v).2.map Val.toV)) → Q (.obj (.loc N)) H') : callP tab (k + 4) "written" [.obj .root, .obj p.id, .int j, v.toV] Q H := by
  refine c_fn rfl rfl ?_
  have hat := R.at hp
  unfold b_written
  unfold written wtgt at q
  have other : ∀ ρ : Env, ρ "slots" = some (.obj p.id) → ρ "key" = some (.int j) → ρ "value" = some v.toV → (∀ N H', Rep (σ.put p j v) H' → Lk H H' → H (.loc N) = none → H' (.loc N) = some (.list ((old (σ.at p) j).map Val.toV)) → Q (.obj (.loc N)) H') →
      wpSs (callP tab (k + 3)) (b_written.drop 1) ρ (retQ Q) H := fun ρ h1 h2 h3 q' =>
    s_ret (i_call (i_cons (i_var h1 (i_cons (i_var h2 (i_cons (i_var h3 (i_nil (sp_replaced (k := k + 2) R W hp fun N H' a b c d => r_ret (q' N H' a b c d))))))))))
  cases hl : (σ.at p).lookup j with
  | none =>
    rw [hl] at q
    refine s_if (i_band (i_and (i_cmp (i_var rfl (i_var rfl (k_inD hat (t := false) (by rw [hasK_map, hl]; rfl) (t_f rfl (t_f rfl (s_nil (s_seq ?_))))))))))
    exact other _ rfl rfl rfl q
  | some u =>
    rw [hl] at q
    have hi : idxOf H (.obj p.id) (.int j) = some u.toV := idx_of hat (by rw [getK_map, hl]; rfl)
    refine s_if (i_band (i_and (i_cmp (i_var rfl (i_var rfl (k_inD hat (t := true) (by rw [hasK_map, hl]; rfl) (t_t rfl (i_and1 (i_call (i_cons (i_var rfl (i_cons (i_idx (i_var rfl (i_var rfl ⟨_, hi, i_nil ?_⟩)))))))))))))))
    refine sp_is_ref (k := k + 1) R ?_
    cases u with
    | int i => exact t_f rfl (s_nil (s_seq (other _ rfl rfl rfl q)))
    | cell n =>
      cases hr : isRef σ (.cell n) with
      | false =>
        simp only [hr, Bool.false_eq_true, if_false] at q
        exact t_f rfl (s_nil (s_seq (other _ rfl rfl rfl q)))
      | true =>
        have hn := (isRef_iff.mp hr).1
        simp only [hr, if_true] at q
        refine t_t rfl (s_ret (i_call (i_cons (i_attr (i_idx (i_attr (i_var rfl ⟨_, R.r_cells, i_idx (i_idx (i_var rfl (i_var rfl ⟨_, hi, i_int ⟨_, idx1, ⟨_, R.i_cells hn, _, R.c_slots hn, i_cons (i_int (i_cons (i_var rfl (i_nil ?_))))⟩⟩⟩)))⟩)))))) )
        exact sp_replaced (p := .cell n) (k := k + 2) R W hn fun N H' a b c d => s_seqr (r_ret (q N H' a b c d))
structure Ref2 (σ σ2 : St) (held : Val) : Prop where
  k2 : σ2.keys = σ.keys ++ [σ.last + 1]
  l2 : σ2.last = σ.last + 1
  v2 : σ2.vars = σ.vars
  g2 : σ2.log = σ.log
  b2 : σ2.buffer = σ.buffer
  ne : ∀ n ∈ σ.keys, n ≠ σ.last + 1
  s2 : ∀ n ∈ σ.keys, σ2.slots n = σ.slots n
  s2' : σ2.slots (σ.last + 1) = [(0, held)]
  so2 : ∀ n ∈ σ.keys, σ2.sort n = σ.sort n
  so2' : σ2.sort (σ.last + 1) = "ref"
theorem last_ne (W : Wf σ) (n : Int) (hn : n ∈ σ.keys) : n ≠ σ.last + 1 := fun e => by have := W.last n hn; lia
theorem ref2_of (W : Wf σ) (held : Val) : Ref2 σ ((σ.newCell "ref").put (.cell (σ.last + 1)) 0 held) held :=
  have ne := last_ne W
  ⟨rfl, rfl, rfl, rfl, rfl, ne, fun n hn => (upd_ne _ _ (ne n hn)).trans (upd_ne _ _ (ne n hn)), (upd_self _ _ _).trans (congrArg (putA · 0 held) (upd_self _ _ _)), fun n hn => upd_ne _ _ (ne n hn), upd_self _ _ _⟩
theorem Ref2.mem {σ2 : St} {held : Val} (X : Ref2 σ σ2 held) : σ.last + 1 ∈ σ2.keys := by rw [X.k2]; exact List.mem_append_right _ (List.mem_singleton.mpr rfl)
theorem Ref2.old {σ2 : St} {held : Val} (X : Ref2 σ σ2 held) {n : Int} (hn : n ∈ σ.keys) : n ∈ σ2.keys := by rw [X.k2]; exact List.mem_append_left _ hn
theorem Ref2.each {σ2 : St} {held : Val} (X : Ref2 σ σ2 held) {P : Int → Prop} (h1 : ∀ n ∈ σ.keys, P n) (h2 : P (σ.last + 1)) (n : Int) (hn : n ∈ σ2.keys) : P n := by
  rw [X.k2] at hn
  rcases List.mem_append.mp hn with hn | hn
  · exact h1 n hn
  · rw [List.mem_singleton.mp hn]; exact h2
theorem Ref2.wf {σ2 : St} {held : Val} (X : Ref2 σ σ2 held) (W : Wf σ) (hnk : σ.keys.length + 1 ≤ 200) : Wf σ2 := by
  refine ⟨fun n hn => ?_, by rw [X.k2, List.length_append]; exact hnk, X.g2 ▸ W.nlog, X.v2 ▸ W.nvars, X.b2 ▸ W.nbuf, X.each (fun n hn => ?_) ?_, X.each (fun n hn e => ?_) fun _ => ?_, ?_, X.v2 ▸ W.ndv, X.each (fun n hn => ?_) ?_⟩
  · rw [X.l2]; exact X.each (P := fun n => n ≤ σ.last + 1) (fun n hn => by have := W.last n hn; lia) (Int.le_refl _) n hn
  · rw [X.s2 n hn]; exact W.nslots n hn
  · rw [X.s2']; exact Nat.le_of_ble_eq_true rfl
  · rw [X.s2 n hn]; rw [X.so2 n hn] at e; exact W.ref n hn e
  · rw [X.s2']; exact ⟨_, rfl⟩
  · rw [X.k2]; exact List.nodup_append.mpr ⟨W.ndk, List.nodup_cons.mpr ⟨List.not_mem_nil, List.nodup_nil⟩, fun a ha b hb e => by rw [List.mem_singleton.mp hb] at e; exact X.ne a ha e⟩
  · rw [X.s2 n hn]; exact W.nds n hn
  · rw [X.s2']; exact List.nodup_cons.mpr ⟨List.not_mem_nil, List.nodup_nil⟩
theorem sp_ref_in {p : Pl} {j : Int} (R : Rep σ H) (W : Wf σ) (hp : σ.ok p) (hnk : σ.keys.length + 1 ≤ 200)
    (q : ∀ H', Rep (refIn σ p j).1 H' → Lk H H' → Q (refIn σ p j).2.toV H') : callP tab (k + 4) "ref_in" [.obj .root, .obj p.id, .int j] Q H := by
  refine c_fn rfl rfl ?_
  have hat := R.at hp
  unfold b_ref_in
  have e : (getK ((σ.at p).map sv) j).getD (V.tup [V.str "int", V.int 0]) = (look (σ.at p) j).toV := by
    rw [getK_map]; unfold look; cases (σ.at p).lookup j <;> rfl
  refine s_assign (i_methD (i := p.id) (fun _ q => i_var rfl q) hat (.inl rfl) (i_cons (i_var rfl (i_cons (i_tup (i_cons (i_str (i_cons (i_int (i_nil (i_nil (d_get2 hat ?_))))))))))))
  rw [e]
  refine s_if (i_call (i_cons (i_var rfl (i_cons (i_var rfl (i_nil ?_))))))
  refine sp_is_ref (k := k + 1) R ?_
  unfold refIn at q
  cases hr : isRef σ (look (σ.at p) j) with
  | true =>
    simp only [hr, if_true] at q
    exact t_t rfl (s_ret (i_var rfl (s_seqr (r_ret (q H R (Lk.refl H))))))
  | false =>
    simp only [hr, Bool.false_eq_true, if_false] at q
    refine t_f rfl (s_nil (s_seq (s_assign (i_call (i_cons (i_var rfl (i_cons (i_str (i_nil ?_)))))))))
    refine sp_new_cell (k := k + 1) R W fun H1 R1 L1 => ?_
    have hm : σ.last + 1 ∈ (σ.newCell "ref").keys := List.mem_append_right _ (List.mem_singleton.mpr rfl)
    have hlast : ∀ n ∈ (σ.newCell "ref").keys, n ≤ (σ.newCell "ref").last := fun n hn => by
      show n ≤ σ.last + 1
      rcases List.mem_append.mp hn with hn | hn
      · have := W.last n hn; lia
      · rw [List.mem_singleton.mp hn]; exact Int.le_refl _
    have hput : putIdx H1 (.obj (.slots (σ.last + 1))) (.int 0) (look (σ.at p) j).toV = some (H1.set (.slots (σ.last + 1)) (.dict 1 ([(0, look (σ.at p) j)].map sv))) := by
      have h1 := R1.slots _ hm
      have e1 : (σ.newCell "ref").slots (σ.last + 1) = [] := upd_self _ _ _
      have e2 : (σ.newCell "ref").sep (σ.last + 1) = 0 := upd_self _ _ _
      rw [e1, e2] at h1
      exact puti_set h1 rfl (Nat.le_of_ble_eq_true rfl)
    refine s_idx (i_var rfl (i_attr (i_idx (i_attr (i_var rfl ⟨_, R1.r_cells, i_idx (i_var rfl (i_int ⟨_, idx1, _, R1.i_cells hm, _, R1.c_slots hm, i_int ⟨_, hput, ?_⟩⟩))⟩)))))
    have R2 : Rep ((σ.newCell "ref").put (.cell (σ.last + 1)) 0 (look (σ.at p) j)) (H1.set (.slots (σ.last + 1)) (.dict 1 ([(0, look (σ.at p) j)].map sv))) := by
      have e1 : (σ.newCell "ref").slots (σ.last + 1) = [] := upd_self _ _ _
      have e2 : (σ.newCell "ref").sep (σ.last + 1) = 0 := upd_self _ _ _
      have := R1.to (p := .cell (σ.last + 1)) hm hlast [(0, look (σ.at p) j)] 1
      unfold St.put
      have e3 : putA ((σ.newCell "ref").at (.cell (σ.last + 1))) 0 (look (σ.at p) j) = [(0, look (σ.at p) j)] := by simp [St.at, e1, putA]
      have e4 : (if (((σ.newCell "ref").at (.cell (σ.last + 1))).lookup 0).isSome = true then (σ.newCell "ref").ep (.cell (σ.last + 1)) else (σ.newCell "ref").ep (.cell (σ.last + 1)) + 1) = 1 := by simp [St.at, St.ep, e1, e2]
      rw [e3, e4]; exact this
    obtain ⟨σ2, hσ2⟩ : ∃ σ2, σ2 = (σ.newCell "ref").put (.cell (σ.last + 1)) 0 (look (σ.at p) j) := ⟨_, rfl⟩
    have X := ref2_of W (look (σ.at p) j)
    rw [← hσ2] at q R2 X
    have hm2 := X.mem
    have W2 := X.wf W hnk
    have L2 : Lk H (H1.set (.slots (σ.last + 1)) (.dict 1 ([(0, look (σ.at p) j)].map sv))) := L1.trans (Lk.other (by intro k e; cases e) _)
    refine s_idx (i_call (i_cons (i_var rfl (i_cons (i_var rfl (i_nil ?_))))))
    refine sp_gain (v := .cell (σ.last + 1)) (k := k + 1) R2 W2 hm2 fun H3 R3 L3 => ?_
    have R3' : Rep (σ2.cnt (σ.last + 1) 1) H3 := R3
    have hp3 : (σ2.cnt (σ.last + 1) 1).ok p := by
      cases p with
      | vars => trivial
      | cell n => exact X.old hp
    have hat3 := R3'.at hp3
    have hlen : (putA ((σ2.cnt (σ.last + 1) 1).at p) j (.cell (σ.last + 1))).length ≤ LIM := by
      have := (W2.cnt (σ.last + 1) 1).at hp3
      have := @putA_len ((σ2.cnt (σ.last + 1) 1).at p) j (.cell (σ.last + 1))
      unfold LIM; lia
    have hput3 : putIdx H3 (.obj p.id) (.int j) (.tup [.str "cell", .int (σ.last + 1)]) = some (H3.set p.id (.dict (if (((σ2.cnt (σ.last + 1) 1).at p).lookup j).isSome = true then (σ2.cnt (σ.last + 1) 1).ep p else (σ2.cnt (σ.last + 1) 1).ep p + 1) ((putA ((σ2.cnt (σ.last + 1) 1).at p) j (.cell (σ.last + 1))).map sv))) := by
      exact puti_map (v := .cell (σ.last + 1)) hat3 hlen
    exact i_var rfl (i_var rfl ⟨_, hput3, s_ret (i_var rfl (r_ret (q _ (R3'.to hp3 (W2.cnt _ _).last _ _) ((L2.trans L3).trans (Lk.other (by intro k e; cases p <;> cases e) _)))))⟩)
theorem ref_held {n : Int} (W : Wf σ) (hn : n ∈ σ.keys) (hs : σ.sort n = "ref") : (σ.slots n).lookup 0 = some (slot0 σ n) := by
  obtain ⟨u, hu⟩ := W.ref n hn hs
  unfold slot0; rw [hu]; rfl
theorem dat_v (v : Val) : dat 8 H v.toV = some (match v with
    | .int i => .tup [.str "int", .int i]
    | .cell m => .tup [.str "cell", .int m]) := by cases v <;> rfl
theorem k_eqv {v : Val} {c : Int} {t : Bool} (h : decide (v = .cell c) = t) (q : Q (.bool t) H) : cmpW .eq v.toV (.tup [.str "cell", .int c]) Q H := by
  refine ⟨_, _, dat_v v, dat_v (.cell c), ?_⟩
  subst h
  cases v with
  | int i => exact q
  | cell m =>
    have : D.beq (.tup [.str "cell", .int m]) (.tup [.str "cell", .int c]) = decide (Val.cell m = Val.cell c) := (Bool.and_true (decide (m = c))).trans (decide_eq_decide.mpr ⟨congrArg _, Val.cell.inj⟩)
    dsimp only; rw [this]; exact q
theorem sp_in_copy {c : Int} {v : Val} (R : Rep σ H) (W : Wf σ) (hc : c ∈ σ.keys) (q : Q (inCopy σ c v).toV H) : callP tab (k + 2) "in_copy" [.obj .root, .obj (.cell c), v.toV] Q H := by
  refine c_fn rfl rfl ?_
  unfold b_in_copy
  refine s_assign (i_call (i_cons (i_var rfl (i_cons (i_var rfl (i_nil (sp_cell_of R ?_)))))))
  cases v with
  | int i =>
    exact s_if (i_bor (i_or (i_cmp (i_var rfl (i_none (k_in1 (t_t rfl (t_t rfl (s_ret (i_var rfl (s_seqr (r_ret q))))))))))))
  | cell n =>
    have q : Q (if isRef σ (.cell n) && !decide (σ.count n > 1) && !decide (slot0 σ n = .cell c) then slot0 σ n else .cell n).toV H := q
    by_cases hn : n ∈ σ.keys
    · have hc1 : cellV σ (.cell n) = .obj (.cell n) := by show (if n ∈ σ.keys then V.obj (.cell n) else .none) = _; rw [if_pos hn]
      rw [hc1]
      refine s_if (i_bor (i_or (i_cmp (i_var rfl (i_none (k_in0 (t_f rfl (i_or (i_cmp (i_attr (i_var rfl ⟨_, R.c_sort hn, i_str ?_⟩)))))))))))
      by_cases hs : σ.sort n = "ref"
      · have h0 := ref_held W hn hs
        have hr : isRef σ (.cell n) = true := isRef_iff.mpr ⟨hn, hs⟩
        rw [hr, Bool.true_and] at q
        rw [hs]
        refine k_nes (t := false) (by decide) (t_f rfl (i_or (i_cmp (i_attr (i_var rfl ⟨_, R.c_count hn, i_int ?_⟩)))))
        cases h1 : decide (σ.count n > 1) with
        | true =>
          rw [h1] at q
          exact k_gt h1 (t_t rfl (t_t rfl (s_ret (i_var rfl (s_seqr (r_ret q))))))
        | false =>
          rw [h1, Bool.not_false, Bool.true_and] at q
          refine k_gt h1 (t_f rfl (i_or1 (i_cmp (i_idx (i_attr (i_var rfl ⟨_, R.c_slots hn, i_int ⟨_, R.i_slots hn h0, i_tup (i_cons (i_str (i_cons (i_attr (i_var rfl ⟨_, R.c_number hc, i_nil ?_⟩)))))⟩⟩))))))
          cases h2 : decide (slot0 σ n = .cell c) with
          | true =>
            rw [h2] at q
            exact k_eqv h2 (t_t rfl (s_ret (i_var rfl (s_seqr (r_ret q)))))
          | false =>
            rw [h2] at q
            exact k_eqv h2 (t_f rfl (s_nil (s_seq (s_ret (i_idx (i_attr (i_var rfl ⟨_, R.c_slots hn, i_int ⟨_, R.i_slots hn h0, r_ret q⟩⟩)))))))
      · have hr : isRef σ (.cell n) = false := by
          cases e : isRef σ (.cell n) with
          | false => rfl
          | true => exact absurd (isRef_iff.mp e).2 hs
        rw [hr, Bool.false_and, Bool.false_and] at q
        exact k_nes (t := true) (by simpa using hs) (t_t rfl (t_t rfl (s_ret (i_var rfl (s_seqr (r_ret q))))))
    · have hr : isRef σ (.cell n) = false := by
        cases e : isRef σ (.cell n) with
        | false => rfl
        | true => exact absurd (isRef_iff.mp e).1 hn
      rw [hr, Bool.false_and, Bool.false_and] at q
      have hc1 : cellV σ (.cell n) = .none := by show (if n ∈ σ.keys then V.obj (.cell n) else .none) = _; rw [if_neg hn]
      rw [hc1]
      exact s_if (i_bor (i_or (i_cmp (i_var rfl (i_none (k_in1 (t_t rfl (t_t rfl (s_ret (i_var rfl (s_seqr (r_ret q))))))))))))
end
end Mine
end
noncomputable section
namespace Mine
open PySem PySem.W PyProof.Rows
structure Cl (σ : St) : Prop where
  vars : ∀ p ∈ σ.vars, okV σ p.2
  slots : ∀ n ∈ σ.keys, ∀ p ∈ σ.slots n, okV σ p.2
  nr : ∀ n ∈ σ.keys, σ.sort n = "ref" → ∀ p ∈ σ.slots n, isRef σ p.2 = false
theorem putA_mem {es : List (Int × Val)} {k : Int} {v : Val} {p : Int × Val} (h : p ∈ putA es k v) : p ∈ es ∨ p = (k, v) := by
  unfold putA at h
  split at h
  · obtain ⟨q, hq, e⟩ := List.mem_map.mp h
    split at e
    · rename_i hk; right; rw [← e, hk]
    · left; rw [← e]; exact hq
  · rcases List.mem_append.mp h with h | h
    · exact .inl h
    · exact .inr (List.mem_singleton.mp h)
theorem lk_some {es : List (Int × Val)} {k : Int} : (es.lookup k).isSome = true ↔ k ∈ es.map (·.1) := by
  induction es with
  | nil => simp
  | cons p r ih =>
    obtain ⟨a, b⟩ := p
    rw [List.lookup_cons, List.map_cons, List.mem_cons]
    by_cases h : k = a
    · subst h; simp
    · have hb : (k == a) = false := by simpa using h
      rw [hb]; simp only [h, false_or]; exact ih
theorem putA_nd {es : List (Int × Val)} {k : Int} {v : Val} (h : (es.map (·.1)).Nodup) : ((putA es k v).map (·.1)).Nodup := by
  unfold putA
  split
  · have : (es.map fun p => if p.1 = k then (p.1, v) else p).map (·.1) = es.map (·.1) := by
      rw [List.map_map]; refine List.map_congr_left fun p _ => ?_
      simp only [Function.comp]; split <;> rfl
    rw [this]; exact h
  · rename_i hk
    rw [List.map_append]
    refine List.nodup_append.mpr ⟨h, by simp, fun a ha b hb e => ?_⟩
    simp only [List.map_cons, List.map_nil, List.mem_singleton] at hb
    subst hb; subst e
    exact hk (lk_some.mpr ha)
theorem delA_nd {es : List (Int × Val)} {k : Int} (h : (es.map (·.1)).Nodup) : ((delA es k).map (·.1)).Nodup := by
  unfold delA
  exact (List.filter_sublist.map _).nodup h
theorem delA_mem {es : List (Int × Val)} {k : Int} {p : Int × Val} (h : p ∈ delA es k) : p ∈ es := (List.mem_filter.mp h).1
section
variable {σ : St} {H : Hp} {k : Nat} {Q : V → Hp → Prop}
theorem at_mem (C : Cl σ) {p : Pl} (hp : σ.ok p) {x : Int × Val} (h : x ∈ σ.at p) : okV σ x.2 := by
  cases p with
  | vars => exact C.vars x h
  | cell n => exact C.slots n hp x h
theorem lookup_ok (C : Cl σ) {p : Pl} (hp : σ.ok p) {j : Int} {v : Val} (h : (σ.at p).lookup j = some v) : okV σ v := at_mem C hp (mem_of_lk h)
theorem look_ok (C : Cl σ) {p : Pl} (hp : σ.ok p) (j : Int) : okV σ (look (σ.at p) j) := by
  unfold look
  cases h : (σ.at p).lookup j with
  | none => trivial
  | some v => exact lookup_ok C hp h
theorem to_keys (p : Pl) (es : List (Int × Val)) (e : Nat) : (σ.to p es e).keys = σ.keys := by cases p <;> rfl
theorem to_sort (p : Pl) (es : List (Int × Val)) (e : Nat) : (σ.to p es e).sort = σ.sort := by cases p <;> rfl
theorem to_count (p : Pl) (es : List (Int × Val)) (e : Nat) : (σ.to p es e).count = σ.count := by cases p <;> rfl
theorem to_last (p : Pl) (es : List (Int × Val)) (e : Nat) : (σ.to p es e).last = σ.last := by cases p <;> rfl
theorem to_log (p : Pl) (es : List (Int × Val)) (e : Nat) : (σ.to p es e).log = σ.log := by cases p <;> rfl
theorem to_buf (p : Pl) (es : List (Int × Val)) (e : Nat) : (σ.to p es e).buffer = σ.buffer := by cases p <;> rfl
theorem to_at (p : Pl) (es : List (Int × Val)) (e : Nat) : (σ.to p es e).at p = es := by cases p <;> simp [St.to, St.at, upd]
theorem to_at_ne {p q : Pl} (h : q ≠ p) (es : List (Int × Val)) (e : Nat) : (σ.to p es e).at q = σ.at q := by
  cases p <;> cases q <;> simp [St.to, St.at, upd] at h ⊢
  intro z; exact absurd z h
theorem isRef_to {p : Pl} {es : List (Int × Val)} {e : Nat} {v : Val} : isRef (σ.to p es e) v = isRef σ v := by
  cases v <;> simp [isRef, to_keys, to_sort]
theorem okV_to {p : Pl} {es : List (Int × Val)} {e : Nat} {v : Val} (h : okV σ v) : okV (σ.to p es e) v := by
  cases v with
  | int _ => trivial
  | cell n => show n ∈ _; rw [to_keys]; exact h
theorem Wf.to (W : Wf σ) {p : Pl} (hp : σ.ok p) {es : List (Int × Val)} {e : Nat} (hl : es.length ≤ 200) (hn : (es.map (·.1)).Nodup) (hr : ∀ n, p = .cell n → σ.sort n = "ref" → ∃ v, es = [(0, v)]) : Wf (σ.to p es e) := by
  cases p with
  | vars => exact ⟨W.last, W.nkeys, W.nlog, hl, W.nbuf, W.nslots, W.ref, W.ndk, hn, W.nds⟩
  | cell n =>
    refine ⟨W.last, W.nkeys, W.nlog, W.nvars, W.nbuf, fun m hm => ?_, fun m hm es' => ?_, W.ndk, W.ndv, fun m hm => ?_⟩
    · simp only [St.to, upd]; split
      · exact hl
      · exact W.nslots m hm
    · simp only [St.to, upd]; split
      · rename_i h; subst h; exact hr m rfl es'
      · exact W.ref m hm es'
    · simp only [St.to, upd]; split
      · exact hn
      · exact W.nds m hm
theorem Cl.to (C : Cl σ) {p : Pl} {es : List (Int × Val)} {e : Nat} (ho : ∀ x ∈ es, okV σ x.2) (hr : ∀ n, p = .cell n → σ.sort n = "ref" → ∀ x ∈ es, isRef σ x.2 = false) : Cl (σ.to p es e) := by
  refine ⟨fun x hx => ?_, fun m hm x hx => ?_, fun m hm hs x hx => ?_⟩
  · have : x ∈ (σ.to p es e).at .vars := hx
    by_cases h : Pl.vars = p
    · subst h; rw [to_at] at this; exact okV_to (ho x this)
    · rw [to_at_ne h] at this; exact okV_to (C.vars x this)
  · rw [to_keys] at hm
    have : x ∈ (σ.to p es e).at (.cell m) := hx
    by_cases h : Pl.cell m = p
    · subst h; rw [to_at] at this; exact okV_to (ho x this)
    · rw [to_at_ne h] at this; exact okV_to (C.slots m hm x this)
  · rw [to_keys] at hm; rw [to_sort] at hs; rw [isRef_to]
    have : x ∈ (σ.to p es e).at (.cell m) := hx
    by_cases h : Pl.cell m = p
    · rw [← h, to_at] at this; exact hr m h.symm hs x this
    · rw [to_at_ne h] at this; exact C.nr m hm hs x this
theorem Wf.put (W : Wf σ) {p : Pl} (hp : σ.ok p) {j : Int} {v : Val} (hl : (σ.at p).length + 1 ≤ 200) (hr : ∀ n, p = .cell n → σ.sort n = "ref" → j = 0) : Wf (σ.put p j v) := by
  refine W.to hp (Nat.le_trans putA_len hl) (putA_nd (W.ndat hp)) fun n e hs => ?_
  have := hr n e hs
  subst this; subst e
  obtain ⟨u, hu⟩ := W.ref n hp hs
  refine ⟨v, ?_⟩
  show putA (σ.slots n) 0 v = _
  rw [hu]; simp [putA]
theorem Cl.put (C : Cl σ) {p : Pl} (hp : σ.ok p) {j : Int} {v : Val} (hv : okV σ v) (hr : ∀ n, p = .cell n → σ.sort n = "ref" → isRef σ v = false) : Cl (σ.put p j v) := by
  refine C.to (fun x hx => ?_) fun n e hs x hx => ?_
  · rcases putA_mem hx with h | h
    · exact at_mem C hp h
    · subst h; exact hv
  · rcases putA_mem hx with h | h
    · subst e; exact C.nr n hp hs x h
    · subst h; exact hr n e hs
theorem Wf.del (W : Wf σ) {p : Pl} (hp : σ.ok p) {j : Int} (hr : ∀ n, p = .cell n → σ.sort n ≠ "ref") : Wf (σ.del p j) :=
  W.to hp (Nat.le_trans delA_len (W.at hp)) (delA_nd (W.ndat hp)) fun n e hs => absurd hs (hr n e)
theorem Cl.del (C : Cl σ) {p : Pl} (hp : σ.ok p) {j : Int} : Cl (σ.del p j) := by
  refine C.to (fun x hx => at_mem C hp (delA_mem hx)) fun n e hs x hx => ?_
  subst e; exact C.nr n hp hs x (delA_mem hx)
theorem Cl.cnt (C : Cl σ) (n d : Int) : Cl (σ.cnt n d) := ⟨C.vars, C.slots, C.nr⟩
theorem Cl.gain (C : Cl σ) (v : Val) : Cl (σ.gain v) := by cases v <;> first | exact C | exact C.cnt _ _
theorem okV_new {s : String} {v : Val} (h : okV σ v) : okV (σ.newCell s) v := by
  cases v with
  | int _ => trivial
  | cell n => exact List.mem_append_left _ h
theorem isRef_new (W : Wf σ) {s : String} {v : Val} (h : okV σ v) : isRef (σ.newCell s) v = isRef σ v := by
  cases v with
  | int _ => rfl
  | cell n =>
    have hn : n ∈ σ.keys := h
    have ne : n ≠ σ.last + 1 := fun e => by have := W.last n hn; lia
    have hm : n ∈ (σ.newCell s).keys := List.mem_append_left _ hn
    simp only [isRef, hm, hn]
    simp [St.newCell, upd, ne]
theorem Cl.newCell (C : Cl σ) (W : Wf σ) {s : String} : Cl (σ.newCell s) := by
  have ne : ∀ n ∈ σ.keys, n ≠ σ.last + 1 := fun n hn e => by have := W.last n hn; lia
  refine ⟨fun x hx => okV_new (C.vars x hx), fun m hm x hx => ?_, fun m hm hs x hx => ?_⟩
  · rcases List.mem_append.mp hm with hm | hm
    · have : x ∈ σ.slots m := by simpa [St.newCell, upd, ne m hm] using hx
      exact okV_new (C.slots m hm x this)
    · rw [List.mem_singleton.mp hm] at hx; simp [St.newCell, upd] at hx
  · rcases List.mem_append.mp hm with hm | hm
    · have h1 : x ∈ σ.slots m := by simpa [St.newCell, upd, ne m hm] using hx
      have h2 : σ.sort m = "ref" := by simpa [St.newCell, upd, ne m hm] using hs
      rw [isRef_new W (C.slots m hm x h1)]; exact C.nr m hm h2 x h1
    · rw [List.mem_singleton.mp hm] at hx; simp [St.newCell, upd] at hx
theorem slot0_ok (C : Cl σ) {n : Int} (hn : n ∈ σ.keys) : okV σ (slot0 σ n) := look_ok C (p := .cell n) hn 0
theorem inner_cell {n : Int} : inner σ (.cell n) = if isRef σ (.cell n) then slot0 σ n else .cell n := rfl
theorem inCopy_cell {c n : Int} : inCopy σ c (.cell n) = if isRef σ (.cell n) && !decide (σ.count n > 1) && !decide (slot0 σ n = .cell c) then slot0 σ n else .cell n := rfl
theorem inner_ok (C : Cl σ) {v : Val} (h : okV σ v) : okV σ (inner σ v) := by
  cases v with
  | int _ => trivial
  | cell n =>
    rw [inner_cell]
    split
    · exact slot0_ok C h
    · exact h
theorem slot0_nr (C : Cl σ) {n : Int} (hr : isRef σ (.cell n) = true) : isRef σ (slot0 σ n) = false := by
  obtain ⟨hn, hs⟩ := isRef_iff.mp hr
  unfold slot0
  cases h : (σ.slots n).lookup 0 with
  | none => rfl
  | some u => exact C.nr n hn hs _ (mem_of_lk h)
theorem inner_nr (C : Cl σ) {v : Val} : isRef σ (inner σ v) = false := by
  cases v with
  | int _ => rfl
  | cell n =>
    rw [inner_cell]
    split
    · rename_i h; exact slot0_nr C h
    · rename_i h; simpa using h
theorem valueOf_ok (C : Cl σ) (x : Int) : okV σ (valueOf σ x) := inner_ok C (look_ok C (p := .vars) trivial x)
theorem valueOf_nr (C : Cl σ) (x : Int) : isRef σ (valueOf σ x) = false := inner_nr C
theorem inCopy_ok (C : Cl σ) {c : Int} {v : Val} (h : okV σ v) : okV σ (inCopy σ c v) := by
  cases v with
  | int _ => trivial
  | cell n =>
    rw [inCopy_cell]
    split
    · exact slot0_ok C h
    · exact h
theorem wtgt_ok (C : Cl σ) {p : Pl} (hp : σ.ok p) (j : Int) : σ.ok (wtgt σ p j).1 := by
  unfold wtgt
  split
  · rename_i n h
    split
    · exact lookup_ok C hp h
    · exact hp
  · exact hp
theorem wtgt_ref (C : Cl σ) {p : Pl} {j : Int} (hp : σ.ok p) (hr : ∀ n, p = .cell n → σ.sort n = "ref" → j = 0) : ∀ n, (wtgt σ p j).1 = .cell n → σ.sort n = "ref" → (wtgt σ p j).2 = 0 := by
  unfold wtgt
  split
  · split
    · intro n _ _; rfl
    · exact hr
  · exact hr
theorem Wf.written (W : Wf σ) (C : Cl σ) {p : Pl} (hp : σ.ok p) {j : Int} {v : Val} (hl : ∀ p, σ.ok p → (σ.at p).length + 1 ≤ 200) (hr : ∀ n, p = .cell n → σ.sort n = "ref" → j = 0) : Wf (written σ p j v).1 :=
  W.put (wtgt_ok C hp j) (hl _ (wtgt_ok C hp j)) (wtgt_ref C hp hr)
theorem Cl.written (C : Cl σ) {p : Pl} (hp : σ.ok p) {j : Int} {v : Val} (hv : okV σ v) (hvr : isRef σ v = false) : Cl (written σ p j v).1 :=
  C.put (wtgt_ok C hp j) hv fun _ _ _ => hvr
end
end Mine
end
noncomputable section
namespace Mine
open PySem PySem.W PyProof.Rows
noncomputable def St.logAdd (σ : St) (e : LogE) : St := { σ with log := σ.log ++ [e] }
noncomputable def copyStep (c m : Int) (σ : St) (j : Int) : St := (σ.gain (inCopy σ c (look (σ.slots c) j))).put (.cell m) j (inCopy σ c (look (σ.slots c) j))
noncomputable def copied (σ : St) (c : Int) : St := ((σ.slots c).map (·.1)).foldl (copyStep c (σ.last + 1)) ((σ.newCell "array").logAdd (.copy c (σ.last + 1)))
section
variable {σ : St} {H : Hp} {k : Nat} {Q : V → Hp → Prop}
theorem Rep.logAdd (R : Rep σ H) (e : LogE) : Rep (σ.logAdd e) (H.set .logL (.list ((σ.log ++ [e]).map LogE.toV))) :=
  ⟨R.root, R.cells, R.vars, rfl, R.plan, R.tables, R.buf, R.bufN, R.cell, R.slots, R.nsl, R.new, fresh_other (fun k e => by cases e) _ R.fresh⟩
theorem Wf.logAdd (W : Wf σ) (e : LogE) (h : σ.log.length + 1 ≤ 1000) : Wf (σ.logAdd e) := ⟨W.last, W.nkeys, by simpa [St.logAdd] using h, W.nvars, W.nbuf, W.nslots, W.ref, W.ndk, W.ndv, W.nds⟩
theorem Cl.logAdd (C : Cl σ) (e : LogE) : Cl (σ.logAdd e) := ⟨C.vars, C.slots, C.nr⟩
theorem m_log (R : Rep σ H) (W : Wf σ) (h : σ.log.length + 1 ≤ 1000) {e : LogE} {v : V} (hv : v = e.toV) {P : V → Hp → Prop} (q : P .none (H.set .logL (.list ((σ.log ++ [e]).map LogE.toV)))) : methL .append .logL [v] P H := by
  subst hv
  simp [methL, R.log]
  exact ⟨by unfold LIM; lia, by simpa using q⟩
structure CP (σ : St) (c m : Int) (N : Nat) (σj : St) : Prop where
  W : Wf σj
  C : Cl σj
  keys : σj.keys = σ.keys ++ [m]
  slots : σj.slots c = σ.slots c
  sep : σj.sep c = σ.sep c
  len : (σj.slots m).length ≤ N
  arr : σj.sort m = "array"
theorem CP.step {c m : Int} {N : Nat} {σj : St} (P : CP σ c m N σj) (hc : c ∈ σ.keys) (hcm : c ≠ m) (hN : N + 1 ≤ 200) (j : Int) : CP σ c m (N + 1) (copyStep c m σj j) := by
  have hcj : c ∈ σj.keys := by rw [P.keys]; exact List.mem_append_left _ hc
  have hmj : m ∈ σj.keys := by rw [P.keys]; simp
  have hv : okV σj (inCopy σj c (look (σj.slots c) j)) := inCopy_ok P.C (look_ok P.C (p := .cell c) hcj j)
  obtain ⟨v, hve⟩ : ∃ v, v = inCopy σj c (look (σj.slots c) j) := ⟨_, rfl⟩
  unfold copyStep
  rw [← hve] at hv ⊢
  have gk : (σj.gain v).keys = σj.keys := by cases v <;> rfl
  have gs : (σj.gain v).slots = σj.slots := by cases v <;> rfl
  have ge : (σj.gain v).sep = σj.sep := by cases v <;> rfl
  have gso : (σj.gain v).sort = σj.sort := by cases v <;> rfl
  have hok : (σj.gain v).ok (.cell m) := by show m ∈ _; rw [gk]; exact hmj
  have hv' : okV (σj.gain v) v := by cases v with
    | int _ => trivial
    | cell n => exact hv
  refine ⟨(P.W.gain v).put hok (by show ((σj.gain v).slots m).length + 1 ≤ 200; rw [gs]; have := P.len; lia) (fun n e hs => ?_), (P.C.gain v).put hok hv' (fun n e hs => ?_), ?_, ?_, ?_, ?_, ?_⟩
  · cases e; rw [gso, P.arr] at hs; simp at hs
  · cases e; rw [gso, P.arr] at hs; simp at hs
  · show ((σj.gain v).to _ _ _).keys = _; rw [to_keys, gk, P.keys]
  · simp [St.put, St.to, upd, hcm, gs, P.slots]
  · simp [St.put, St.to, upd, hcm, ge, P.sep]
  · show (((σj.gain v).to _ _ _).at (.cell m)).length ≤ _
    rw [to_at]
    have := @putA_len ((σj.gain v).at (.cell m)) j v
    have h2 : ((σj.gain v).at (.cell m)).length ≤ N := by show ((σj.gain v).slots m).length ≤ N; rw [gs]; exact P.len
    lia
  · show ((σj.gain v).to _ _ _).sort m = _; rw [to_sort, gso]; exact P.arr
theorem CP.fold {c m : Int} (hc : c ∈ σ.keys) (hcm : c ≠ m) (l : List Int) : ∀ {N : Nat} {σj : St}, CP σ c m N σj → N + l.length ≤ 200 → CP σ c m (N + l.length) (l.foldl (copyStep c m) σj) := by
  induction l with
  | nil => intro N σj P _; exact P
  | cons a r ih =>
    intro N σj P h
    simp only [List.length_cons] at h
    have := ih (P.step hc hcm (by lia) a) (by lia)
    simp only [List.foldl_cons, List.length_cons]
    have e : N + (r.length + 1) = N + 1 + r.length := by lia
    rw [e]; exact this
theorem CP.start {c : Int} (W : Wf σ) (C : Cl σ) (hc : c ∈ σ.keys) (hk : σ.keys.length + 1 ≤ 200) (hl : σ.log.length + 1 ≤ 1000) : CP σ c (σ.last + 1) 0 ((σ.newCell "array").logAdd (.copy c (σ.last + 1))) := by
  have hcm : c ≠ σ.last + 1 := fun e => by have := W.last c hc; lia
  exact ⟨(W.newCell hk (by decide)).logAdd _ hl, (C.newCell W).logAdd _, rfl, by simp [St.logAdd, St.newCell, upd, hcm], by simp [St.logAdd, St.newCell, upd, hcm], by simp [St.logAdd, St.newCell, upd], by simp [St.logAdd, St.newCell, upd]⟩
theorem sp_copied {c : Int} (R : Rep σ H) (W : Wf σ) (C : Cl σ) (hc : c ∈ σ.keys) (hk : σ.keys.length + 1 ≤ 200) (hl : σ.log.length + 1 ≤ 1000) (hs : (σ.slots c).length + 1 ≤ 200)
    (q : ∀ H', Rep (copied σ c) H' → Lk H H' → Q (Val.cell (σ.last + 1)).toV H') : callP tab (k + 3) "copied" [.obj .root, .obj (.cell c)] Q H := by
  refine c_fn rfl rfl ?_
  have hcm : c ≠ σ.last + 1 := fun e => by have := W.last c hc; lia
  unfold b_copied
  refine s_assign (i_call (i_cons (i_var rfl (i_cons (i_str (i_nil ?_))))))
  refine sp_new_cell R W fun H1 R1 L1 => ?_
  have hc1 : c ∈ (σ.newCell "array").keys := List.mem_append_left _ hc
  have W1 : Wf (σ.newCell "array") := W.newCell hk (by decide)
  have hlog : H1 .logL = some (.list (σ.log.map LogE.toV)) := R1.log
  refine s_expr (i_methL (i := .logL) (fun _ p => i_attr (i_var rfl ⟨_, R1.r_log, p⟩)) hlog rfl (i_cons (i_tup (i_cons (i_str (i_cons (i_attr (i_var rfl ⟨_, R1.c_number hc1, i_cons (i_idx (i_var rfl (i_int ⟨_, idx1, i_nil (i_nil ?_)⟩)))⟩))))))))
  refine m_log R1 W1 hl (e := .copy c (σ.last + 1)) rfl ?_
  obtain ⟨H2, hH2⟩ : ∃ H2, H2 = H1.set .logL (.list (((σ.newCell "array").log ++ [LogE.copy c (σ.last + 1)]).map LogE.toV)) := ⟨_, rfl⟩
  have R2 := R1.logAdd (.copy c (σ.last + 1))
  rw [← hH2] at R2
  have L2 : Lk H H2 := L1.trans (by rw [hH2]; exact Lk.other (by intro k e; cases e) _)
  rw [← hH2]
  have P0 := CP.start W C hc hk hl
  have hc2 : c ∈ ((σ.newCell "array").logAdd (.copy c (σ.last + 1))).keys := hc1
  have hsl : H2 (.slots c) = some (.dict (σ.sep c) ((σ.slots c).map sv)) := by rw [R2.slots c hc2, P0.slots, P0.sep]
  refine s_for (i_attr (i_var rfl ⟨_, R2.c_slots hc2, ?_⟩))
  refine for_i (items := ((σ.slots c).map sv).map (fun p => .int p.1)) (keep := some (.slots c)) (
    fun j ρ' H' => ρ' "heap" = some (.obj .root) ∧ ρ' "cell" = some (.obj (.cell c)) ∧ ρ' "made" = some (.tup [.str "cell", .int (σ.last + 1)]) ∧
      Rep ((((σ.slots c).map (·.1)).take j).foldl (copyStep c (σ.last + 1)) ((σ.newCell "array").logAdd (.copy c (σ.last + 1)))) H' ∧ Lk H H') (srcD hsl) ⟨rfl, rfl, rfl, R2, L2⟩ ?_ ?_ ?_
  · rintro j ρ' H' ⟨_, _, _, R', _⟩
    have PJ := CP.fold hc hcm (((σ.slots c).map (·.1)).take j) P0 (by simp only [List.length_take, List.length_map]; lia)
    show H' (.slots c) = H2 (.slots c)
    rw [R'.slots c (by rw [PJ.keys]; exact List.mem_append_left _ hc), PJ.slots, PJ.sep, hsl]
  · rintro j ρ' H' it hit ⟨h1, h2, h3, R', L'⟩
    have hj : j < (σ.slots c).length := by
      have := (List.getElem?_eq_some_iff.mp hit).1; simpa using this
    have hit' : it = .int ((σ.slots c)[j]).1 := by
      rw [List.getElem?_map, List.getElem?_map, List.getElem?_eq_getElem hj] at hit
      simpa using hit.symm
    subst hit'
    have PJ := CP.fold hc hcm (((σ.slots c).map (·.1)).take j) P0 (by simp only [List.length_take, List.length_map]; lia)
    have hta : ((σ.slots c).map (·.1)).take (j + 1) = ((σ.slots c).map (·.1)).take j ++ [((σ.slots c)[j]).1] := by
      rw [List.take_add_one, List.getElem?_map, List.getElem?_eq_getElem hj]; rfl
    obtain ⟨σj, hσj⟩ : ∃ σj, σj = (((σ.slots c).map (·.1)).take j).foldl (copyStep c (σ.last + 1)) ((σ.newCell "array").logAdd (.copy c (σ.last + 1))) := ⟨_, rfl⟩
    rw [← hσj] at R' PJ
    have hcj : c ∈ σj.keys := by rw [PJ.keys]; exact List.mem_append_left _ hc
    have hmj : σ.last + 1 ∈ σj.keys := by rw [PJ.keys]; simp
    have hlk : (σj.slots c).lookup ((σ.slots c)[j]).1 = some ((σ.slots c)[j]).2 := by rw [PJ.slots]; exact lookup_nd (W.nds c hc) (List.getElem_mem hj)
    have hlo : look (σj.slots c) ((σ.slots c)[j]).1 = ((σ.slots c)[j]).2 := by simp [look, hlk]
    obtain ⟨ρ2, hρ2⟩ : ∃ ρ2, ρ2 = ρ'.upd "key" (.int ((σ.slots c)[j]).1) := ⟨_, rfl⟩
    have g1 : ρ2 "heap" = some (.obj .root) := by rw [hρ2]; exact h1
    have g2 : ρ2 "cell" = some (.obj (.cell c)) := by rw [hρ2]; exact h2
    have g3 : ρ2 "made" = some (.tup [.str "cell", .int (σ.last + 1)]) := by rw [hρ2]; exact h3
    have g4 : ρ2 "key" = some (.int ((σ.slots c)[j]).1) := by rw [hρ2]; rfl
    refine ⟨ρ2, by rw [hρ2]; rfl, ?_⟩
    clear hρ2
    refine s_idx (i_call (i_cons (i_var g1 (i_cons (i_call (i_cons (i_var g1 (i_cons (i_var g2 (i_cons (i_idx (i_attr (i_var g2 ⟨_, R'.c_slots hcj, i_var g4 ⟨_, R'.i_slots hcj hlk, i_nil ?_⟩⟩)))))))))))))
    refine sp_in_copy R' PJ.W hcj ?_
    have hvo : okV σj (inCopy σj c ((σ.slots c)[j]).2) := inCopy_ok PJ.C (lookup_ok PJ.C (p := .cell c) hcj hlk)
    obtain ⟨v, hve⟩ : ∃ v, v = inCopy σj c ((σ.slots c)[j]).2 := ⟨_, rfl⟩
    have hst : copyStep c (σ.last + 1) σj ((σ.slots c)[j]).1 = (σj.gain v).put (.cell (σ.last + 1)) ((σ.slots c)[j]).1 v := by unfold copyStep; rw [hlo, ← hve]
    rw [← hve] at hvo ⊢
    refine i_nil ?_
    refine sp_gain R' PJ.W hvo fun H3 R3 L3 => ?_
    have gk : (σj.gain v).keys = σj.keys := by cases v <;> rfl
    have gs : (σj.gain v).slots = σj.slots := by cases v <;> rfl
    have hm3 : σ.last + 1 ∈ (σj.gain v).keys := by rw [gk]; exact hmj
    have hat3 := R3.at (p := .cell (σ.last + 1)) hm3
    have hlen : (putA ((σj.gain v).at (.cell (σ.last + 1))) ((σ.slots c)[j]).1 v).length ≤ LIM := by
      have := @putA_len ((σj.gain v).at (.cell (σ.last + 1))) ((σ.slots c)[j]).1 v
      have h2 : ((σj.gain v).at (.cell (σ.last + 1))).length ≤ 200 := by show ((σj.gain v).slots _).length ≤ _; rw [gs]; exact PJ.W.nslots _ hmj
      unfold LIM; lia
    have hput : putIdx H3 (.obj (.slots (σ.last + 1))) (.int ((σ.slots c)[j]).1) v.toV = some (H3.set (Pl.cell (σ.last + 1)).id (.dict (if (((σj.gain v).at (.cell (σ.last + 1))).lookup ((σ.slots c)[j]).1).isSome = true then (σj.gain v).ep (.cell (σ.last + 1)) else (σj.gain v).ep (.cell (σ.last + 1)) + 1) ((putA ((σj.gain v).at (.cell (σ.last + 1))) ((σ.slots c)[j]).1 v).map sv))) := by
      have hat3' : H3 (.slots (σ.last + 1)) = some (.dict ((σj.gain v).ep (.cell (σ.last + 1))) (((σj.gain v).at (.cell (σ.last + 1))).map sv)) := hat3
      exact puti_map hat3' hlen
    refine i_attr (i_idx (i_attr (i_var g1 ⟨_, R3.r_cells, i_idx (i_var g3 (i_int ⟨_, idx1, _, R3.i_cells hm3, _, R3.c_slots hm3, i_var g4 ⟨_, hput, s_nil (tn_next ?_)⟩⟩))⟩)))
    refine ⟨g1, g2, g3, ?_, (L'.trans L3).trans (Lk.other (by intro k e; cases e) _)⟩
    rw [hta, List.foldl_append, List.foldl_cons, List.foldl_nil, ← hσj, hst]
    exact R3.to (p := .cell (σ.last + 1)) hm3 (PJ.W.gain v).last _ _
  · rintro ρ' H' ⟨h1, h2, h3, R', L'⟩
    refine s_ret (i_var h3 (r_ret (q H' ?_ L')))
    unfold copied
    have : ((σ.slots c).map (·.1)).take (((σ.slots c).map sv).map (fun p => V.int p.1)).length = (σ.slots c).map (·.1) := List.take_of_length_le (by simp)
    rw [this] at R'
    exact R'
end
end Mine
end
noncomputable section
namespace Mine
open PySem PySem.W PyProof.Rows
structure Good (σ : St) (b : Nat) : Prop where
  W : Wf σ
  C : Cl σ
  keys : σ.keys.length ≤ b
  at_ : ∀ p, σ.ok p → (σ.at p).length ≤ b
  log : σ.log.length ≤ 800 + b
noncomputable def Grow (σ σ' : St) : Prop := ∀ n ∈ σ.keys, n ∈ σ'.keys ∧ σ'.sort n = σ.sort n
theorem Grow.refl (σ : St) : Grow σ σ := fun n h => ⟨h, rfl⟩
theorem Grow.trans {a b c : St} (x : Grow a b) (y : Grow b c) : Grow a c := fun n h => ⟨(y n (x n h).1).1, ((y n (x n h).1).2).trans (x n h).2⟩
theorem Grow.okV {σ σ' : St} (g : Grow σ σ') {v : Val} (h : okV σ v) : okV σ' v := by
  cases v with
  | int _ => trivial
  | cell n => exact (g n h).1
theorem Grow.isRef {σ σ' : St} (g : Grow σ σ') {v : Val} (h : Mine.okV σ v) : Mine.isRef σ' v = Mine.isRef σ v := by
  cases v with
  | int _ => rfl
  | cell n =>
    have hn : n ∈ σ.keys := h
    simp [Mine.isRef, (g n hn).1, (g n hn).2, hn]
theorem Grow.ok {σ σ' : St} (g : Grow σ σ') {p : Pl} (h : σ.ok p) : σ'.ok p := by
  cases p with
  | vars => trivial
  | cell n => exact (g n h).1
section
variable {σ : St} {H : Hp} {k b : Nat} {Q : V → Hp → Prop}
theorem Good.mono (G : Good σ b) {c : Nat} (h : b ≤ c) : Good σ c := ⟨G.W, G.C, Nat.le_trans G.keys h, fun p hp => Nat.le_trans (G.at_ p hp) h, Nat.le_trans G.log (by lia)⟩
theorem grow_gain (v : Val) : Grow σ (σ.gain v) := fun n h => by cases v <;> exact ⟨h, rfl⟩
theorem grow_cnt (n d : Int) : Grow σ (σ.cnt n d) := fun n h => ⟨h, rfl⟩
theorem grow_to (p : Pl) (es : List (Int × Val)) (e : Nat) : Grow σ (σ.to p es e) := fun n h => by rw [to_keys, to_sort]; exact ⟨h, rfl⟩
theorem grow_put (p : Pl) (j : Int) (v : Val) : Grow σ (σ.put p j v) := grow_to _ _ _
theorem grow_del (p : Pl) (j : Int) : Grow σ (σ.del p j) := grow_to _ _ _
theorem grow_written (p : Pl) (j : Int) (v : Val) : Grow σ (written σ p j v).1 := grow_put _ _ _
theorem grow_new (W : Wf σ) (s : String) : Grow σ (σ.newCell s) := fun n h => by
  have ne : n ≠ σ.last + 1 := fun e => by have := W.last n h; lia
  exact ⟨List.mem_append_left _ h, by simp [St.newCell, upd, ne]⟩
theorem Good.cnt (G : Good σ b) (n d : Int) : Good (σ.cnt n d) b := ⟨G.W.cnt n d, G.C.cnt n d, G.keys, fun p hp => (by
    cases p with
    | vars => exact G.at_ .vars trivial
    | cell m => exact G.at_ (.cell m) hp), G.log⟩
theorem Good.gain (G : Good σ b) (v : Val) : Good (σ.gain v) b := by cases v <;> first | exact G | exact G.cnt _ _
theorem Good.put (G : Good σ b) {p : Pl} (hp : σ.ok p) {j : Int} {v : Val} (hv : okV σ v) (hb : b + 1 ≤ 200) (hr : ∀ n, p = .cell n → σ.sort n = "ref" → j = 0 ∧ isRef σ v = false) : Good (σ.put p j v) (b + 1) := by
  have hl := G.at_ p hp
  refine ⟨G.W.put hp (by lia) fun n e h => (hr n e h).1, G.C.put hp hv fun n e h => (hr n e h).2, ?_, fun q hq => ?_, ?_⟩
  · show ((σ.to _ _ _).keys).length ≤ _; rw [to_keys]; have := G.keys; lia
  · have hq' : σ.ok q := by
      cases q with
      | vars => trivial
      | cell n => have : n ∈ (σ.to _ _ _).keys := hq; rw [to_keys] at this; exact this
    show ((σ.to _ _ _).at q).length ≤ _
    by_cases e : q = p
    · subst e; rw [to_at]; have := @putA_len (σ.at q) j v; lia
    · rw [to_at_ne e]; have := G.at_ q hq'; lia
  · show ((σ.to _ _ _).log).length ≤ _; rw [to_log]; have := G.log; lia
theorem Good.del (G : Good σ b) {p : Pl} (hp : σ.ok p) {j : Int} (hr : ∀ n, p = .cell n → σ.sort n ≠ "ref") : Good (σ.del p j) b := by
  refine ⟨G.W.del hp hr, G.C.del hp, ?_, fun q hq => ?_, ?_⟩
  · show ((σ.to _ _ _).keys).length ≤ _; rw [to_keys]; exact G.keys
  · have hq' : σ.ok q := by
      cases q with
      | vars => trivial
      | cell n => have : n ∈ (σ.to _ _ _).keys := hq; rw [to_keys] at this; exact this
    show ((σ.to _ _ _).at q).length ≤ _
    by_cases e : q = p
    · subst e; rw [to_at]; exact Nat.le_trans delA_len (G.at_ q hp)
    · rw [to_at_ne e]; exact G.at_ q hq'
  · show ((σ.to _ _ _).log).length ≤ _; rw [to_log]; exact G.log
theorem Good.written (G : Good σ b) {p : Pl} (hp : σ.ok p) {j : Int} {v : Val} (hv : okV σ v) (hb : b + 1 ≤ 200) (hvr : isRef σ v = false) (hr : ∀ n, p = .cell n → σ.sort n = "ref" → j = 0) : Good (written σ p j v).1 (b + 1) :=
  G.put (wtgt_ok G.C hp j) hv hb fun n e h => ⟨wtgt_ref G.C hp hr n e h, hvr⟩
theorem Good.new (G : Good σ b) {s : String} (hs : s ≠ "ref") (hb : b + 1 ≤ 200) : Good (σ.newCell s) (b + 1) := by
  have hk := G.keys
  refine ⟨G.W.newCell (by lia) hs, G.C.newCell G.W, by simp [St.newCell]; lia, fun p hp => ?_, by have := G.log; show σ.log.length ≤ _; lia⟩
  cases p with
  | vars => have := G.at_ .vars trivial; show σ.vars.length ≤ _; have : σ.vars.length ≤ b := this; lia
  | cell n =>
    show ((σ.newCell s).slots n).length ≤ _
    have hp' : n ∈ σ.keys ++ [σ.last + 1] := hp
    rcases List.mem_append.mp hp' with h | h
    · have ne : n ≠ σ.last + 1 := fun e => by have := G.W.last n h; lia
      have : (σ.slots n).length ≤ b := G.at_ (.cell n) h
      simp [St.newCell, upd, ne]; lia
    · rw [List.mem_singleton.mp h]; simp [St.newCell, upd]
theorem Good.logAdd (G : Good σ b) (e : LogE) (hb : b + 1 ≤ 200) : Good (σ.logAdd e) (b + 1) := by
  have hl := G.log
  refine ⟨G.W.logAdd e (by lia), G.C.logAdd e, by show σ.keys.length ≤ _; have := G.keys; lia, fun p hp => ?_, by simp [St.logAdd]; lia⟩
  cases p with
  | vars => have : σ.vars.length ≤ b := G.at_ .vars trivial; show σ.vars.length ≤ _; lia
  | cell n => have : (σ.slots n).length ≤ b := G.at_ (.cell n) hp; show (σ.slots n).length ≤ _; lia
theorem sp_has_elements {x : Int} (R : Rep σ H) (W : Wf σ) (q : Q (.bool (match valueOf σ x with | .cell _ => true | .int _ => false)) H) : callP tab (k + 5) "has_elements" [.obj .root, .int x] Q H := by
  refine c_fn rfl rfl ?_
  unfold b_has_elements
  refine s_ret (i_cmp (i_idx (i_call (i_cons (i_var rfl (i_cons (i_var rfl (i_nil (sp_value_of R W ?_)))))))))
  cases h : valueOf σ x with
  | int i => rw [h] at q; exact i_int ⟨_, idx0, i_str (k_eqs (t := false) (by decide) (r_ret q))⟩
  | cell n => rw [h] at q; exact i_int ⟨_, idx0, i_str (k_eqs (t := true) (by decide) (r_ret q))⟩
theorem sp_copied' {c : Int} (R : Rep σ H) (G : Good σ b) (hb : b + 1 ≤ 199) (hc : c ∈ σ.keys) (q : ∀ H', Rep (copied σ c) H' → Lk H H' → Q (Val.cell (σ.last + 1)).toV H') : callP tab (k + 3) "copied" [.obj .root, .obj (.cell c)] Q H :=
  sp_copied R G.W G.C hc (by have := G.keys; lia) (by have := G.log; lia) (by have := G.at_ (.cell c) hc; have h : (σ.slots c).length ≤ b := this; lia) q
theorem fold_log {c m : Int} (l : List Int) : ∀ σj : St, (l.foldl (copyStep c m) σj).log = σj.log ∧ (l.foldl (copyStep c m) σj).vars = σj.vars ∧ (l.foldl (copyStep c m) σj).last = σj.last ∧ (l.foldl (copyStep c m) σj).sort = σj.sort ∧ (∀ n, n ≠ m → (l.foldl (copyStep c m) σj).slots n = σj.slots n) := by
  induction l with
  | nil => intro σj; exact ⟨rfl, rfl, rfl, rfl, fun _ _ => rfl⟩
  | cons a r ih =>
    intro σj
    obtain ⟨i1, i2, i3, i4, i5⟩ := ih (copyStep c m σj a)
    have e : ∀ v : Val, (σj.gain v).log = σj.log ∧ (σj.gain v).vars = σj.vars ∧ (σj.gain v).last = σj.last ∧ (σj.gain v).sort = σj.sort ∧ (σj.gain v).slots = σj.slots := fun v => by cases v <;> exact ⟨rfl, rfl, rfl, rfl, rfl⟩
    obtain ⟨e1, e2, e3, e4, e5⟩ := e (inCopy σj c (look (σj.slots c) a))
    rw [List.foldl_cons]
    refine ⟨i1.trans ?_, i2.trans ?_, i3.trans ?_, i4.trans ?_, fun n hn => (i5 n hn).trans ?_⟩
    · show (St.to _ _ _ _).log = _; rw [to_log]; exact e1
    · exact e2
    · show (St.to _ _ _ _).last = _; rw [to_last]; exact e3
    · show (St.to _ _ _ _).sort = _; rw [to_sort]; exact e4
    · simp [copyStep, St.put, St.to, upd, hn, e5]
theorem copied_facts {c : Int} (G : Good σ b) (hb : b + 1 ≤ 199) (hc : c ∈ σ.keys) : CP σ c (σ.last + 1) (σ.slots c).length (copied σ c) ∧ (copied σ c).vars = σ.vars ∧ (copied σ c).last = σ.last + 1 ∧ (copied σ c).log = σ.log ++ [.copy c (σ.last + 1)] ∧
    (∀ n ∈ σ.keys, (copied σ c).sort n = σ.sort n ∧ (copied σ c).slots n = σ.slots n) := by
  have hcm : c ≠ σ.last + 1 := fun e => by have := G.W.last c hc; lia
  have hs : (σ.slots c).length ≤ b := G.at_ (.cell c) hc
  have P0 := CP.start G.W G.C hc (by have := G.keys; lia) (by have := G.log; lia)
  have P1 := CP.fold hc hcm ((σ.slots c).map (·.1)) P0 (by simp; lia)
  obtain ⟨f1, f2, f3, f4, f5⟩ := fold_log (c := c) (m := σ.last + 1) ((σ.slots c).map (·.1)) ((σ.newCell "array").logAdd (.copy c (σ.last + 1)))
  refine ⟨by unfold copied; simpa using P1, f2, f3, f1, fun n hn => ?_⟩
  have ne : n ≠ σ.last + 1 := fun e => by have := G.W.last n hn; lia
  refine ⟨?_, ?_⟩
  · show St.sort (List.foldl _ _ _) n = _; rw [f4]; simp [St.logAdd, St.newCell, upd, ne]
  · show St.slots (List.foldl _ _ _) n = _; rw [f5 n ne]; simp [St.logAdd, St.newCell, upd, ne]
theorem Good.copied {c : Int} (G : Good σ b) (hb : b + 1 ≤ 199) (hc : c ∈ σ.keys) : Good (copied σ c) (b + 1) ∧ Grow σ (copied σ c) ∧ σ.last + 1 ∈ (copied σ c).keys ∧ (copied σ c).sort (σ.last + 1) = "array" := by
  obtain ⟨P, f1, f2, f3, f4⟩ := copied_facts G hb hc
  have hs : (σ.slots c).length ≤ b := G.at_ (.cell c) hc
  refine ⟨⟨P.W, P.C, by rw [P.keys]; have := G.keys; simp; lia, fun p hp => ?_, by rw [f3]; have := G.log; simp; lia⟩, fun n hn => ⟨by rw [P.keys]; exact List.mem_append_left _ hn, (f4 n hn).1⟩, by rw [P.keys]; simp, P.arr⟩
  cases p with
  | vars => show (Mine.copied σ c).vars.length ≤ _; rw [f1]; have : σ.vars.length ≤ b := G.at_ .vars trivial; lia
  | cell n =>
    have hp' : n ∈ (Mine.copied σ c).keys := hp
    show ((Mine.copied σ c).slots n).length ≤ _
    rw [P.keys] at hp'
    rcases List.mem_append.mp hp' with h | h
    · rw [(f4 n h).2]; have : (σ.slots n).length ≤ b := G.at_ (.cell n) h; lia
    · rw [List.mem_singleton.mp h]; have := P.len; lia
noncomputable def keepsIt (σ : St) (c : Int) : Bool := σ.sort c == "object" || decide (σ.count c = 1)
noncomputable def container (σ : St) (x : Int) : St × Int × List Val := match valueOf σ x with
  | .int _ => (σ, 0, [])
  | .cell c => if keepsIt σ c then (σ, c, []) else
      ((written ((copied σ c).cnt (σ.last + 1) 1) .vars x (.cell (σ.last + 1))).1, σ.last + 1, (written ((copied σ c).cnt (σ.last + 1) 1) .vars x (.cell (σ.last + 1))).2)
theorem Good.container (G : Good σ b) (hb : b + 2 ≤ 199) {x c : Int} (hc : valueOf σ x = .cell c) : Good (Mine.container σ x).1 (b + 2) ∧ Grow σ (Mine.container σ x).1 ∧ (Mine.container σ x).2.1 ∈ (Mine.container σ x).1.keys ∧ (Mine.container σ x).1.sort (Mine.container σ x).2.1 ≠ "ref" := by
  have hck : c ∈ σ.keys := by have := valueOf_ok G.C x; rw [hc] at this; exact this
  have hnr : σ.sort c ≠ "ref" := fun e => by
    have := valueOf_nr G.C x
    rw [hc] at this
    have h2 : isRef σ (.cell c) = true := isRef_iff.mpr ⟨hck, e⟩
    rw [h2] at this; cases this
  unfold Mine.container
  rw [hc]
  dsimp only
  split
  · exact ⟨G.mono (by lia), Grow.refl σ, hck, hnr⟩
  · obtain ⟨G1, g1, hm, ha⟩ := G.copied (by lia) hck
    have G2 := G1.cnt (σ.last + 1) 1
    have hv : okV ((Mine.copied σ c).cnt (σ.last + 1) 1) (.cell (σ.last + 1)) := hm
    have hvr : isRef ((Mine.copied σ c).cnt (σ.last + 1) 1) (.cell (σ.last + 1)) = false := by
      cases e : isRef ((Mine.copied σ c).cnt (σ.last + 1) 1) (.cell (σ.last + 1)) with
      | false => rfl
      | true => have := (isRef_iff.mp e).2; have h2 : (Mine.copied σ c).sort (σ.last + 1) = "ref" := this; rw [ha] at h2; simp at h2
    refine ⟨G2.written (p := .vars) trivial hv (by lia) hvr (fun n e => by cases e), (g1.trans (grow_cnt _ _)).trans (grow_written _ _ _), ?_, ?_⟩
    · exact (grow_written (σ := (Mine.copied σ c).cnt (σ.last + 1) 1) .vars x (.cell (σ.last + 1)) _ hm).1
    · rw [(grow_written (σ := (Mine.copied σ c).cnt (σ.last + 1) 1) .vars x (.cell (σ.last + 1)) _ hm).2]
      show (Mine.copied σ c).sort _ ≠ _
      rw [ha]; decide
theorem k_eqi {a b : Int} {t : Bool} (h : decide (a = b) = t) (q : Q (.bool t) H) : cmpW .eq (.int a) (.int b) Q H := by
  refine ⟨.int a, .int b, rfl, rfl, ?_⟩
  have e : D.beq (.int a) (.int b) = decide (a = b) := rfl
  rw [e, h]; exact q
theorem sp_container {x c : Int} (R : Rep σ H) (G : Good σ b) (hb : b + 2 ≤ 199) (hc : valueOf σ x = .cell c)
    (q : ∀ N H', Rep (container σ x).1 H' → Lk H H' → H (.loc N) = none → H' (.loc N) = some (.list ((container σ x).2.2.map Val.toV)) → Q (.tup [.obj (.cell (container σ x).2.1), .obj (.loc N)]) H') :
    callP tab (k + 5) "container" [.obj .root, .int x] Q H := by
  refine c_fn rfl rfl ?_
  have hck : c ∈ σ.keys := by have := valueOf_ok G.C x; rw [hc] at this; exact this
  unfold b_container
  refine s_assign (i_idx (i_attr (i_var rfl ⟨_, R.r_cells, i_idx (i_call (i_cons (i_var rfl (i_cons (i_var rfl (i_nil (sp_value_of R G.W ?_)))))))⟩)))
  rw [hc]
  refine i_int ⟨_, idx1, _, R.i_cells hck, s_if (i_bor (i_or (i_cmp (i_attr (i_var rfl ⟨_, R.c_sort hck, i_str ?_⟩)))))⟩
  unfold container keepsIt at q
  rw [hc] at q
  dsimp only at q
  have one : ∀ ρ : Env, ρ "cell" = some (.obj (.cell c)) → (∀ N H', Rep σ H' → Lk H H' → H (.loc N) = none → H' (.loc N) = some (.list []) → Q (.tup [.obj (.cell c), .obj (.loc N)]) H') →
      ∀ r, wpSs (callP tab (k + 4)) [.ret (.tup [(.var "cell"), (.list [])])] ρ (seqQ (callP tab (k + 4)) r (retQ Q)) H := fun ρ h q' r =>
    s_ret (i_tup (i_cons (i_var h (i_cons (i_list (i_nil (new_loc R [] fun N H1 R1 L1 hN e1 => i_nil (s_seqr (r_ret (q' N H1 R1 L1 hN (by rw [e1, Hp.set_self])))))))))))
  cases h1 : σ.sort c == "object" with
  | true =>
    rw [h1, Bool.true_or, if_pos rfl] at q
    exact k_eqs h1 (t_t rfl (t_t rfl (one _ rfl q _)))
  | false =>
    refine k_eqs h1 (t_f rfl (i_or1 (i_cmp (i_attr (i_var rfl ⟨_, R.c_count hck, i_int ?_⟩)))))
    rw [h1, Bool.false_or] at q
    cases h2 : decide (σ.count c = 1) with
    | true =>
      rw [h2, if_pos rfl] at q
      exact k_eqi h2 (t_t rfl (one _ rfl q _))
    | false =>
      rw [h2, if_neg (by simp)] at q
      refine k_eqi h2 (t_f rfl (s_nil (s_seq (s_assign (i_call (i_cons (i_var rfl (i_cons (i_var rfl (i_nil ?_))))))))))
      refine sp_copied' (k := k + 1) R G (by lia) hck fun H1 R1 L1 => ?_
      obtain ⟨G1, g1, hm, ha⟩ := G.copied (by lia) hck
      have G2 := G1.cnt (σ.last + 1) 1
      refine s_ret (i_tup (i_cons (i_idx (i_attr (i_var rfl ⟨_, R1.r_cells, ?_⟩)))))
      refine i_idx (i_var rfl (i_int ⟨_, idx1, _, R1.i_cells hm, ?_⟩))
      refine i_cons (i_call (i_cons (i_var rfl (i_cons (i_attr (i_var rfl ⟨_, R1.r_vars, ?_⟩))))))
      refine i_cons (i_var rfl (i_cons (i_call (i_cons (i_var rfl (i_cons (i_var rfl (i_nil ?_))))))))
      refine sp_gain (v := .cell (σ.last + 1)) (k := k + 2) R1 G1.W hm fun H2 R2 L2 => ?_
      have R2' : Rep ((copied σ c).cnt (σ.last + 1) 1) H2 := R2
      refine i_nil (sp_written (p := .vars) (k := k) R2' G2.W trivial fun N H3 R3 L3 hN e3 => ?_)
      have LL := (L1.trans L2)
      refine i_nil (r_ret (q N H3 R3 (LL.trans L3) ?_ e3))
      cases e : H (.loc N) with
      | none => rfl
      | some o => rw [LL N o e] at hN; cases hN
end
end Mine
end
noncomputable section
namespace Mine
open PySem PySem.W PyProof.Rows
inductive Deed where
  | setInt (a n : Int) | newArray (a : Int) | newObject (a : Int) (d : Bool) | assign (a b : Int) | put (a k b : Int) | putRef (a k b : Int) | makeRef (a b : Int) | unset (a : Int) | unsetAt (a k : Int)
noncomputable def Deed.name : Deed → String
  | .setInt .. => "set_int" | .newArray .. => "new_array" | .newObject .. => "new_object" | .assign .. => "assign" | .put .. => "put" | .putRef .. => "put_ref" | .makeRef .. => "make_ref" | .unset .. => "unset" | .unsetAt .. => "unset_at"
noncomputable def Deed.args : Deed → List V
  | .setInt a n => [.int a, .int n] | .newArray a => [.int a] | .newObject a d => [.int a, .bool d] | .assign a b => [.int a, .int b] | .put a k b => [.int a, .int k, .int b] | .putRef a k b => [.int a, .int k, .int b]
  | .makeRef a b => [.int a, .int b] | .unset a => [.int a] | .unsetAt a k => [.int a, .int k]
noncomputable def Deed.toV (d : Deed) : V := .tup [.str d.name, .tup d.args]
noncomputable def St.setD (σ : St) (n : Int) (d : Bool) : St := { σ with hasD := upd σ.hasD n d }
noncomputable def change (σ : St) : Deed → St × List Val
  | .setInt a n => written σ .vars a (.int n)
  | .newArray a => written ((σ.newCell "array").cnt (σ.last + 1) 1) .vars a (.cell (σ.last + 1))
  | .newObject a d => written (((σ.newCell "object").cnt (σ.last + 1) 1).setD (σ.last + 1) d) .vars a (.cell (σ.last + 1))
  | .assign a b => written (σ.gain (valueOf σ b)) .vars a (valueOf σ b)
  | .put a k b => match valueOf σ a with
    | .int _ => (σ, [])
    | .cell _ =>
      let r := container (σ.gain (valueOf σ b)) a
      let w := written r.1 (.cell r.2.1) k (valueOf σ b)
      (w.1, r.2.2 ++ w.2)
  | .putRef a k b => match valueOf σ a with
    | .int _ => (σ, [])
    | .cell _ =>
      let f := refIn σ .vars b
      let r := container (f.1.gain f.2) a
      (r.1.put (.cell r.2.1) k f.2, r.2.2 ++ old (r.1.slots r.2.1) k)
  | .makeRef a b =>
    let f := refIn σ .vars b
    ((f.1.gain f.2).put .vars a f.2, old (f.1.gain f.2).vars a)
  | .unset a => match σ.vars.lookup a with
    | some u => (σ.del .vars a, [u])
    | none => (σ, [])
  | .unsetAt a k => match valueOf σ a with
    | .int _ => (σ, [])
    | .cell _ =>
      let r := container σ a
      match (r.1.slots r.2.1).lookup k with
      | some u => (r.1.del (.cell r.2.1) k, r.2.2 ++ [u])
      | none => (r.1, r.2.2 ++ [])
section
variable {σ : St} {H : Hp} {k b : Nat} {Q : V → Hp → Prop}
theorem Rep.setD (R : Rep σ H) (W : Wf σ) {n : Int} (hn : n ∈ σ.keys) (d : Bool) : Rep (σ.setD n d) (H.set (.cell n) (cellO (σ.setD n d) n)) :=
  R.recd hn (W.last n hn) rfl rfl rfl rfl rfl rfl rfl rfl rfl rfl rfl fun m h => by unfold cellO St.setD; dsimp only; rw [upd_ne _ _ h]
theorem Rep.p_hasD (R : Rep σ H) {n : Int} (hn : n ∈ σ.keys) (d : Bool) : putAttr H (.obj (.cell n)) "has_destructor" (.bool d) = some (H.set (.cell n) (cellO (σ.setD n d) n)) := by
  have e := upd_self σ.hasD n d; unfold cellO St.setD; dsimp only; rw [e]; exact put_of (R.cell n hn) (Nat.le_of_ble_eq_true rfl)
theorem Good.setD (G : Good σ b) (n : Int) (d : Bool) : Good (σ.setD n d) b := by
  refine ⟨⟨G.W.last, G.W.nkeys, G.W.nlog, G.W.nvars, G.W.nbuf, G.W.nslots, G.W.ref, G.W.ndk, G.W.ndv, G.W.nds⟩, ⟨G.C.vars, G.C.slots, G.C.nr⟩, G.keys, fun p hp => ?_, G.log⟩
  cases p with
  | vars => exact G.at_ .vars trivial
  | cell m => exact G.at_ (.cell m) hp
theorem old_len (es : List (Int × Val)) (j : Int) : (old es j).length ≤ 1 := by unfold old; cases es.lookup j <;> simp
theorem nr_of_sort {n : Int} (h : σ.sort n ≠ "ref") : isRef σ (.cell n) = false := by
  cases e : isRef σ (.cell n) with
  | false => rfl
  | true => exact absurd (isRef_iff.mp e).2 h
theorem refIn_facts (G : Good σ b) (hb : b + 1 ≤ 199) {p : Pl} (hp : σ.ok p) (j : Int) (hsp : ∀ n, p = .cell n → σ.sort n ≠ "ref") :
    Good (refIn σ p j).1 (b + 1) ∧ Grow σ (refIn σ p j).1 ∧ okV (refIn σ p j).1 (refIn σ p j).2 ∧ isRef (refIn σ p j).1 (refIn σ p j).2 = true := by
  unfold refIn
  dsimp only
  split
  · rename_i h
    exact ⟨G.mono (by lia), Grow.refl σ, look_ok G.C hp j, h⟩
  · rename_i h
    have W := G.W
    obtain ⟨held, hh⟩ : ∃ held, held = look (σ.at p) j := ⟨_, rfl⟩
    rw [← hh] at h ⊢
    have hok : okV σ held := hh ▸ look_ok G.C hp j
    obtain ⟨σ2, hσ2⟩ : ∃ σ2, σ2 = (σ.newCell "ref").put (.cell (σ.last + 1)) 0 held := ⟨_, rfl⟩
    rw [← hσ2]
    have X := hσ2 ▸ ref2_of W held
    have g2 : Grow σ σ2 := fun n hn => ⟨X.old hn, X.so2 n hn⟩
    have hnk := G.keys
    have W2 := X.wf W (by lia)
    have C2 : Cl σ2 := by
      refine ⟨fun x hx => ?_, X.each (fun n hn x hx => ?_) fun x hx => ?_, X.each (fun n hn e x hx => ?_) fun e x hx => ?_⟩
      · rw [X.v2] at hx; exact g2.okV (G.C.vars x hx)
      · rw [X.s2 n hn] at hx; exact g2.okV (G.C.slots n hn x hx)
      · rw [X.s2'] at hx; rw [List.mem_singleton.mp hx]; exact g2.okV hok
      · rw [X.s2 n hn] at hx; rw [X.so2 n hn] at e; rw [g2.isRef (G.C.slots n hn x hx)]; exact G.C.nr n hn e x hx
      · rw [X.s2'] at hx; rw [List.mem_singleton.mp hx, g2.isRef hok]; exact eq_false_of_ne_true h
    have hl2 := G.log
    have G2 : Good σ2 (b + 1) := by
      refine ⟨W2, C2, by rw [X.k2, List.length_append]; exact Nat.succ_le_succ hnk, fun q hq => ?_, by rw [X.g2]; lia⟩
      cases q with
      | vars => show σ2.vars.length ≤ _; rw [X.v2]; exact Nat.le_succ_of_le (G.at_ .vars trivial)
      | cell n => exact X.each (P := fun n => (σ2.slots n).length ≤ b + 1) (fun n hn => by rw [X.s2 n hn]; exact Nat.le_succ_of_le (G.at_ (.cell n) hn)) (by rw [X.s2']; exact Nat.succ_le_succ (Nat.zero_le _)) n hq
    have G3 := G2.cnt (σ.last + 1) 1
    have hm : σ.last + 1 ∈ (σ2.cnt (σ.last + 1) 1).keys := X.mem
    have hp3 : (σ2.cnt (σ.last + 1) 1).ok p := by
      cases p with
      | vars => trivial
      | cell n => exact (g2 n hp).1
    have g3 : Grow σ ((σ2.cnt (σ.last + 1) 1).put p j (.cell (σ.last + 1))) := (g2.trans (grow_cnt _ _)).trans (grow_put _ _ _)
    have hm4 : σ.last + 1 ∈ ((σ2.cnt (σ.last + 1) 1).put p j (.cell (σ.last + 1))).keys := by show _ ∈ (St.to _ _ _ _).keys; rw [to_keys]; exact hm
    have hr4 : isRef ((σ2.cnt (σ.last + 1) 1).put p j (.cell (σ.last + 1))) (.cell (σ.last + 1)) = true := isRef_iff.mpr ⟨hm4, by show (St.to _ _ _ _).sort _ = _; rw [to_sort]; exact X.so2'⟩
    refine ⟨?_, g3, hm4, hr4⟩
    have hl : ((σ2.cnt (σ.last + 1) 1).at p).length ≤ b := by
      cases p with
      | vars => show σ2.vars.length ≤ _; rw [X.v2]; exact G.at_ .vars trivial
      | cell n => show (σ2.slots n).length ≤ _; rw [X.s2 n hp]; exact G.at_ (.cell n) hp
    have hpr : ∀ n, p = .cell n → (σ2.cnt (σ.last + 1) 1).sort n ≠ "ref" := fun n e => by
      subst e; show σ2.sort n ≠ _; rw [X.so2 n hp]; exact hsp n rfl
    refine ⟨G3.W.put hp3 (by lia) (fun n e hs => absurd hs (hpr n e)), G3.C.put hp3 hm (fun n e hs => absurd hs (hpr n e)), by show ((St.to _ _ _ _).keys).length ≤ _; rw [to_keys]; exact G3.keys, fun q hq => ?_, by show ((St.to _ _ _ _).log).length ≤ _; rw [to_log]; exact G3.log⟩
    have hq' : (σ2.cnt (σ.last + 1) 1).ok q := by
      cases q with
      | vars => trivial
      | cell n => have : n ∈ (St.to _ _ _ _).keys := hq; rw [to_keys] at this; exact this
    show ((St.to _ _ _ _).at q).length ≤ _
    by_cases e : q = p
    · subst e; rw [to_at]; have := @putA_len ((σ2.cnt (σ.last + 1) 1).at q) j (.cell (σ.last + 1)); lia
    · rw [to_at_ne e]; exact G3.at_ q hq'
theorem valueOf_gain (v : Val) (x : Int) : valueOf (σ.gain v) x = valueOf σ x := by cases v <;> rfl
noncomputable abbrev EndD (Q : V → Hp → Prop) (H : Hp) (r : St × List Val) : Prop := ∀ N H', Rep r.1 H' → Lk H H' → H (.loc N) = none → H' (.loc N) = some (.list (r.2.map Val.toV)) → Q (.obj (.loc N)) H'
theorem EndD.lift {H H1 : Hp} {r : St × List Val} (L : Lk H H1) (q : EndD Q H r) : EndD Q H1 r := fun N H' R' L' hN e => q N H' R' (L.trans L') (by
  cases h : H (.loc N) with
  | none => rfl
  | some o => rw [L N o h] at hN; cases hN) e
theorem sum_lists {H : Hp} {N M : Nat} {xs ys : List Val} {σ' : St} (R : Rep σ' H) (h1 : H (.loc N) = some (.list (xs.map Val.toV))) (h2 : H (.loc M) = some (.list (ys.map Val.toV))) (hl : xs.length + ys.length ≤ 100)
    (q : EndD Q H (σ', xs ++ ys)) : binW .add (.obj (.loc N)) (.obj (.loc M)) Q H := by
  exact b_addl h1 h2 (by rw [List.length_map, List.length_map]; unfold LIM; lia) (new_loc R _ fun K H1 R1 L1 hK e1 => q K H1 R1 L1 hK (by rw [e1, Hp.set_self, List.map_append]))
theorem q_empty (R : Rep σ H) (q : EndD Q H (σ, [])) : newO (.list []) Q H := new_loc R [] fun N H1 R1 L1 hN e1 => q N H1 R1 L1 hN (by rw [e1, Hp.set_self]; rfl)
theorem sp_set_int {a n : Int} (R : Rep σ H) (G : Good σ b) (hb : b + 4 ≤ 195) (q : EndD Q H (change σ (.setInt a n))) : callP tab (k + 5) "set_int" [.obj .root, .int a, .int n] Q H := by
  refine c_fn rfl rfl ?_
  unfold b_set_int
  exact s_ret (i_call (i_cons (i_var rfl (i_cons (i_attr (i_var rfl ⟨_, R.r_vars, i_cons (i_var rfl (i_cons (i_tup (i_cons (i_str (i_cons (i_var rfl (i_nil (i_nil (sp_written (p := .vars) (v := .int n) R G.W trivial q))))))))))⟩))))))
theorem sp_new_array {a : Int} (R : Rep σ H) (G : Good σ b) (hb : b + 4 ≤ 195) (q : EndD Q H (change σ (.newArray a))) : callP tab (k + 5) "new_array" [.obj .root, .int a] Q H := by
  refine c_fn rfl rfl ?_
  unfold b_new_array
  have hk := G.keys
  refine s_ret (i_call (i_cons (i_var rfl (i_cons (i_attr (i_var rfl ⟨_, R.r_vars, i_cons (i_var rfl (i_cons (i_call (i_cons (i_var rfl (i_cons (i_call (i_cons (i_var rfl (i_cons (i_str (i_nil (?_)))))))))))))⟩))))))
  refine sp_new_cell (k := k + 2) R G.W fun H1 R1 L1 => i_nil ?_
  have G1 := G.new (s := "array") (by decide) (by lia)
  have hm : σ.last + 1 ∈ (σ.newCell "array").keys := List.mem_append_right _ (List.mem_singleton.mpr rfl)
  refine sp_gain (v := .cell (σ.last + 1)) (k := k + 2) R1 G1.W hm fun H2 R2 L2 => ?_
  have R2' : Rep ((σ.newCell "array").cnt (σ.last + 1) 1) H2 := R2
  exact i_nil <| sp_written (p := .vars) (v := .cell (σ.last + 1)) R2' (G1.cnt _ _).W trivial (q.lift (L1.trans L2))
theorem sp_new_object {a : Int} {d : Bool} (R : Rep σ H) (G : Good σ b) (hb : b + 4 ≤ 195) (q : EndD Q H (change σ (.newObject a d))) : callP tab (k + 5) "new_object" [.obj .root, .int a, .bool d] Q H := by
  refine c_fn rfl rfl ?_
  have hk := G.keys
  unfold b_new_object
  refine s_assign (i_call (i_cons (i_var rfl (i_cons (i_call (i_cons (i_var rfl (i_cons (i_str (i_nil (?_)))))))))))
  refine sp_new_cell (k := k + 2) R G.W fun H1 R1 L1 => i_nil ?_
  have G1 := G.new (s := "object") (by decide) (by lia)
  have hm : σ.last + 1 ∈ (σ.newCell "object").keys := List.mem_append_right _ (List.mem_singleton.mpr rfl)
  refine sp_gain (v := .cell (σ.last + 1)) (k := k + 2) R1 G1.W hm fun H2 R2 L2 => ?_
  have R2' : Rep ((σ.newCell "object").cnt (σ.last + 1) 1) H2 := R2
  have hm2 : σ.last + 1 ∈ ((σ.newCell "object").cnt (σ.last + 1) 1).keys := hm
  have R3 := R2'.setD (G1.cnt _ _).W hm2 d
  refine s_attr (i_var rfl (i_idx (i_attr (i_var rfl ⟨_, R2'.r_cells, i_idx (i_var rfl (i_int (⟨_, idx1, _, R2'.i_cells hm2, _, R2'.p_hasD hm2 d, ?_⟩)))⟩))))
  refine s_ret (i_call (i_cons (i_var rfl (i_cons (i_attr (i_var rfl ⟨_, R3.r_vars, i_cons (i_var rfl (i_cons (i_var rfl (i_nil (?_)))))⟩))))))
  exact sp_written (p := .vars) (v := .cell (σ.last + 1)) R3 ((G1.cnt _ _).setD _ _).W trivial (q.lift ((L1.trans L2).trans (Lk.other (by intro k e; cases e) _)))
theorem sp_assign {a c : Int} (R : Rep σ H) (G : Good σ b) (hb : b + 4 ≤ 195) (q : EndD Q H (change σ (.assign a c))) : callP tab (k + 5) "assign" [.obj .root, .int a, .int c] Q H := by
  refine c_fn rfl rfl ?_
  unfold b_assign
  refine s_ret (i_call (i_cons (i_var rfl (i_cons (i_attr (i_var rfl ⟨_, R.r_vars, i_cons (i_var rfl (i_cons (i_call (i_cons (i_var rfl (i_cons (i_call (i_cons (i_var rfl (i_cons (i_var rfl (i_nil (?_)))))))))))))⟩))))))
  refine sp_value_of (k := k) R G.W (i_nil ?_)
  refine sp_gain (k := k + 2) R G.W (valueOf_ok G.C c) fun H2 R2 L2 => ?_
  exact i_nil (sp_written (p := .vars) R2 (G.gain _).W trivial (q.lift L2))
theorem sp_put {a j c : Int} (R : Rep σ H) (G : Good σ b) (hb : b + 4 ≤ 195) (q : EndD Q H (change σ (.put a j c))) : callP tab (k + 6) "put" [.obj .root, .int a, .int j, .int c] Q H := by
  refine c_fn rfl rfl ?_
  unfold b_put
  refine s_if (i_not (i_call (i_cons (i_var rfl (i_cons (i_var rfl (i_nil (?_))))))))
  refine sp_has_elements (k := k) R G.W ?_
  simp only [change] at q
  cases h : valueOf σ a with
  | int i =>
    rw [h] at q
    exact ⟨_, rfl, t_t rfl (s_ret (i_list (i_nil (q_empty R q))))⟩
  | cell c0 =>
    rw [h] at q
    refine ⟨_, rfl, t_f rfl (s_nil (s_seq (s_assign (i_call (i_cons (i_var rfl (i_cons (i_call (i_cons (i_var rfl (i_cons (i_var rfl (i_nil (?_))))))))))))))⟩
    refine sp_value_of (k := k + 1) R G.W (i_nil ?_)
    have hv := valueOf_ok G.C c
    have hvr := valueOf_nr G.C c
    refine sp_gain (k := k + 3) R G.W hv fun H2 R2 L2 => ?_
    have G2 := G.gain (valueOf σ c)
    refine s_assignTup (i_call (i_cons (i_var rfl (i_cons (i_var rfl (i_nil (?_)))))))
    refine sp_container (k := k) R2 G2 (by lia) (c := c0) (by rw [valueOf_gain]; exact h) fun N H3 R3 L3 hN e3 => ?_
    obtain ⟨G3, g3, hcm, hcs⟩ := G2.container (x := a) (c := c0) (by lia) (by rw [valueOf_gain]; exact h)
    obtain ⟨r, hr⟩ : ∃ r, r = container (σ.gain (valueOf σ c)) a := ⟨_, rfl⟩
    rw [← hr] at q R3 e3 G3 g3 hcm hcs ⊢
    refine ⟨_, _, rfl, rfl, ?_⟩
    refine s_ret (i_bin (i_var rfl (i_call (i_cons (i_var rfl (i_cons (i_attr (i_var rfl ⟨_, R3.c_slots hcm, i_cons (i_var rfl (i_cons (i_var rfl (i_nil (?_)))))⟩))))))))
    have hv3 : okV r.1 (valueOf σ c) := g3.okV ((grow_gain _).okV hv)
    refine sp_written (p := .cell r.2.1) (k := k + 1) R3 G3.W hcm fun M H4 R4 L4 hM e4 => ?_
    refine sum_lists R4 (L4 N _ e3) e4 ?_ (q.lift ((L2.trans L3).trans L4))
    have h1 : r.2.2.length ≤ 1 := by
      rw [hr]; unfold container; split
      · simp
      · split
        · simp
        · exact old_len _ _
    have h2 : (written r.1 (.cell r.2.1) j (valueOf σ c)).2.length ≤ 1 := old_len _ _
    lia
theorem container_len (x : Int) : (container σ x).2.2.length ≤ 1 := by
  unfold container; split
  · simp
  · split
    · simp
    · exact old_len _ _
theorem sp_make_ref {a c : Int} (R : Rep σ H) (G : Good σ b) (hb : b + 4 ≤ 195) (q : EndD Q H (change σ (.makeRef a c))) : callP tab (k + 6) "make_ref" [.obj .root, .int a, .int c] Q H := by
  refine c_fn rfl rfl ?_
  unfold b_make_ref
  refine s_ret (i_call (i_cons (i_attr (i_var rfl ⟨_, R.r_vars, i_cons (i_var rfl (i_cons (i_call (i_cons (i_var rfl (i_cons (i_call (i_cons (i_var rfl (i_cons (i_attr (i_var rfl ⟨_, R.r_vars, i_cons (i_var rfl (i_nil (?_)))⟩))))))))))))⟩))))
  refine sp_ref_in (p := .vars) (k := k + 1) R G.W trivial (by have := G.keys; lia) fun H1 R1 L1 => i_nil ?_
  obtain ⟨G1, g1, hok, hr⟩ := refIn_facts G (by lia) (p := .vars) trivial c (by intro n e; cases e)
  refine sp_gain (k := k + 3) R1 G1.W hok fun H2 R2 L2 => ?_
  exact i_nil <| sp_replaced (p := .vars) R2 (G1.gain _).W trivial (q.lift (L1.trans L2))
theorem lkc_eq (l : List (Int × Val)) (a : Int) (v : Val) : ((a, v) :: l).lookup a = some v := by rw [List.lookup_cons, beq_self_eq_true]
theorem lkc_ne (l : List (Int × Val)) {a c : Int} (h : a ≠ c) (v : Val) : ((c, v) :: l).lookup a = l.lookup a := by rw [List.lookup_cons, beq_false_of_ne h]
theorem map_lk (c a : Int) (v : Val) : ∀ l : List (Int × Val), (l.map fun p => if p.1 = c then (p.1, v) else p).lookup a = if a = c then (l.lookup c).map (fun _ => v) else l.lookup a := by
  intro l
  induction l with
  | nil => by_cases h : a = c <;> simp only [List.map_nil, h, if_true, if_false, List.lookup_nil, Option.map_none, ite_self]
  | cons q r ih =>
    obtain ⟨x, y⟩ := q
    rw [List.map_cons]
    by_cases hx : x = c
    · rw [if_pos hx]; subst hx
      by_cases ha : a = x
      · subst ha; rw [if_pos rfl, lkc_eq, lkc_eq]; rfl
      · rw [if_neg ha, lkc_ne _ ha, lkc_ne _ ha, ih, if_neg ha]
    · rw [if_neg hx]
      by_cases ha : a = x
      · subst ha; rw [if_neg hx, lkc_eq, lkc_eq]
      · rw [lkc_ne _ ha, lkc_ne _ ha, lkc_ne _ (Ne.symm hx)]; exact ih
theorem putA_lookup (es : List (Int × Val)) (c a : Int) (v : Val) : (putA es c v).lookup a = if a = c then some v else es.lookup a := by
  unfold putA
  cases h : es.lookup c with
  | some u => rw [Option.isSome_some, if_pos rfl, map_lk, h]; rfl
  | none =>
    rw [Option.isSome_none, if_neg Bool.false_ne_true, List.lookup_append]
    by_cases ha : a = c
    · subst ha; rw [if_pos rfl, h, lkc_eq]; rfl
    · rw [if_neg ha, lkc_ne _ ha]; cases es.lookup a <;> rfl
theorem valueOf_refIn (G : Good σ b) (hb : b + 1 ≤ 199) (c a : Int) : valueOf (refIn σ .vars c).1 a = valueOf σ a := by
  unfold refIn
  dsimp only
  split
  · rfl
  · rename_i h
    have W := G.W
    obtain ⟨held, hh⟩ : ∃ held, held = look (σ.at .vars) c := ⟨_, rfl⟩
    rw [← hh] at h ⊢
    have hok : okV σ held := hh ▸ look_ok G.C (p := .vars) trivial c
    obtain ⟨σ4, hσ4⟩ : ∃ σ4, σ4 = (((σ.newCell "ref").put (.cell (σ.last + 1)) 0 held).cnt (σ.last + 1) 1).put .vars c (.cell (σ.last + 1)) := ⟨_, rfl⟩
    rw [← hσ4]
    have X := ref2_of W held
    have k4 : σ4.keys = σ.keys ++ [σ.last + 1] := by rw [hσ4]; rfl
    have v4 : σ4.vars = putA σ.vars c (.cell (σ.last + 1)) := by rw [hσ4]; rfl
    have s4 : ∀ n ∈ σ.keys, σ4.slots n = σ.slots n := hσ4 ▸ X.s2
    have s4' : σ4.slots (σ.last + 1) = [(0, held)] := hσ4 ▸ X.s2'
    have so4 : ∀ n ∈ σ.keys, σ4.sort n = σ.sort n := hσ4 ▸ X.so2
    have so4' : σ4.sort (σ.last + 1) = "ref" := hσ4 ▸ X.so2'
    have g4 : Grow σ σ4 := fun n hn => ⟨by rw [k4]; exact List.mem_append_left _ hn, so4 n hn⟩
    have inn : ∀ v, okV σ v → inner σ4 v = inner σ v := fun v hv => by
      cases v with
      | int _ => rfl
      | cell n =>
        rw [inner_cell, inner_cell, g4.isRef hv]
        have : slot0 σ4 n = slot0 σ n := by unfold slot0; rw [s4 n hv]
        rw [this]
    unfold valueOf
    have hlk : look σ4.vars a = if a = c then .cell (σ.last + 1) else look σ.vars a := by
      rw [v4]
      unfold look
      have key := putA_lookup σ.vars c a (.cell (σ.last + 1))
      rw [key]; split <;> rfl
    rw [hlk]
    split
    · rename_i ha
      subst ha
      have h1 : inner σ4 (.cell (σ.last + 1)) = held := by
        rw [inner_cell, if_pos (isRef_iff.mpr ⟨by rw [k4]; simp, so4'⟩)]
        unfold slot0; rw [s4']; rfl
      rw [h1]
      have h2 : look σ.vars a = held := hh.symm
      rw [h2]
      cases held with
      | int _ => rfl
      | cell n => rw [inner_cell, if_neg h]
    · exact inn _ (look_ok G.C (p := .vars) trivial a)
theorem sp_put_ref {a j c : Int} (R : Rep σ H) (G : Good σ b) (hb : b + 4 ≤ 195) (q : EndD Q H (change σ (.putRef a j c))) : callP tab (k + 6) "put_ref" [.obj .root, .int a, .int j, .int c] Q H := by
  refine c_fn rfl rfl ?_
  unfold b_put_ref
  refine s_if (i_not (i_call (i_cons (i_var rfl (i_cons (i_var rfl (i_nil (?_))))))))
  refine sp_has_elements (k := k) R G.W ?_
  simp only [change] at q
  cases h : valueOf σ a with
  | int i =>
    rw [h] at q
    exact ⟨_, rfl, t_t rfl (s_ret (i_list (i_nil (q_empty R q))))⟩
  | cell c0 =>
    rw [h] at q
    refine ⟨_, rfl, t_f rfl (s_nil (s_seq (s_assign (i_call (i_cons (i_var rfl (i_cons (i_call (i_cons (i_var rfl (i_cons (i_attr (i_var rfl ⟨_, R.r_vars, i_cons (i_var rfl (i_nil (?_)))⟩)))))))))))))⟩
    refine sp_ref_in (p := .vars) (k := k + 1) R G.W trivial (by have := G.keys; lia) fun H1 R1 L1 => i_nil ?_
    obtain ⟨G1, g1, hok, hrf⟩ := refIn_facts G (by lia) (p := .vars) trivial c (by intro n e; cases e)
    refine sp_gain (k := k + 3) R1 G1.W hok fun H2 R2 L2 => ?_
    have G2 := G1.gain (refIn σ .vars c).2
    have hval : valueOf ((refIn σ .vars c).1.gain (refIn σ .vars c).2) a = .cell c0 := by rw [valueOf_gain, valueOf_refIn G (by lia)]; exact h
    refine s_assignTup (i_call (i_cons (i_var rfl (i_cons (i_var rfl (i_nil (?_)))))))
    refine sp_container (k := k) R2 G2 (by lia) (c := c0) hval fun N H3 R3 L3 hN e3 => ?_
    obtain ⟨G3, g3, hcm, hcs⟩ := G2.container (x := a) (c := c0) (by lia) hval
    obtain ⟨r, hr⟩ : ∃ r, r = container ((refIn σ .vars c).1.gain (refIn σ .vars c).2) a := ⟨_, rfl⟩
    have hcl : r.2.2.length ≤ 1 := hr ▸ container_len a
    rw [← hr] at q R3 e3 G3 g3 hcm hcs ⊢
    refine ⟨_, _, rfl, rfl, ?_⟩
    refine s_ret (i_bin (i_var rfl (i_call (i_cons (i_attr (i_var rfl ⟨_, R3.c_slots hcm, i_cons (i_var rfl (i_cons (i_var rfl (i_nil (?_)))))⟩))))))
    refine sp_replaced (p := .cell r.2.1) (k := k + 4) R3 G3.W hcm fun M H4 R4 L4 hM e4 => ?_
    refine sum_lists R4 (L4 N _ e3) e4 ?_ (q.lift (((L1.trans L2).trans L3).trans L4))
    have h2 : (old (r.1.at (.cell r.2.1)) j).length ≤ 1 := old_len _ _
    lia
theorem sp_unset {a : Int} (R : Rep σ H) (G : Good σ b) (q : EndD Q H (change σ (.unset a))) : callP tab (k + 2) "unset" [.obj .root, .int a] Q H := by
  refine c_fn rfl rfl ?_
  unfold b_unset
  refine s_ret (i_call (i_cons (i_attr (i_var rfl ⟨_, R.r_vars, i_cons (i_var rfl (i_nil (?_)))⟩))))
  simp only [change] at q
  refine sp_taken_out (p := .vars) R G.W trivial (fun e N H1 R1 L1 hN e1 => ?_) (fun u e N H1 R1 L1 hN e1 => ?_)
  · have e' : σ.vars.lookup a = none := e
    rw [e'] at q; exact q N H1 R1 L1 hN e1
  · have e' : σ.vars.lookup a = some u := e
    rw [e'] at q; exact q N H1 R1 L1 hN e1
theorem sp_unset_at {a j : Int} (R : Rep σ H) (G : Good σ b) (hb : b + 4 ≤ 195) (q : EndD Q H (change σ (.unsetAt a j))) : callP tab (k + 6) "unset_at" [.obj .root, .int a, .int j] Q H := by
  refine c_fn rfl rfl ?_
  unfold b_unset_at
  refine s_if (i_not (i_call (i_cons (i_var rfl (i_cons (i_var rfl (i_nil (?_))))))))
  refine sp_has_elements (k := k) R G.W ?_
  simp only [change] at q
  cases h : valueOf σ a with
  | int i =>
    rw [h] at q
    exact ⟨_, rfl, t_t rfl (s_ret (i_list (i_nil (q_empty R q))))⟩
  | cell c0 =>
    rw [h] at q
    refine ⟨_, rfl, t_f rfl (s_nil (s_seq (s_assignTup (i_call (i_cons (i_var rfl (i_cons (i_var rfl (i_nil (?_))))))))))⟩
    refine sp_container (k := k) R G (by lia) (c := c0) h fun N H3 R3 L3 hN e3 => ?_
    obtain ⟨G3, g3, hcm, hcs⟩ := G.container (x := a) (c := c0) (by lia) h
    have hcl := container_len (σ := σ) a
    obtain ⟨r, hr⟩ : ∃ r, r = container σ a := ⟨_, rfl⟩
    rw [← hr] at q R3 e3 G3 g3 hcm hcs hcl ⊢
    refine ⟨_, _, rfl, rfl, ?_⟩
    refine s_ret (i_bin (i_var rfl (i_call (i_cons (i_attr (i_var rfl ⟨_, R3.c_slots hcm, i_cons (i_var rfl (i_nil (?_)))⟩))))))
    refine sp_taken_out (p := .cell r.2.1) (k := k + 4) R3 G3.W hcm (fun e M H4 R4 L4 hM e4 => ?_) (fun u e M H4 R4 L4 hM e4 => ?_)
    · have e' : (r.1.slots r.2.1).lookup j = none := e
      rw [e'] at q
      exact sum_lists (ys := []) R4 (L4 N _ e3) e4 (by simp; lia) (q.lift (L3.trans L4))
    · have e' : (r.1.slots r.2.1).lookup j = some u := e
      rw [e'] at q
      exact sum_lists (ys := [u]) R4 (L4 N _ e3) e4 (by simp; lia) (q.lift (L3.trans L4))
end
end Mine
end
noncomputable section
namespace Mine
open PySem PySem.W PyProof.Rows
inductive Task where | lose (v : Val) | deed (d : Deed)
noncomputable def Task.toV : Task → V
  | .lose v => .tup [.str "lose", v.toV]
  | .deed d => .tup [.str "deed", d.toV]
noncomputable def St.buf (σ : St) (n : Int) : St := { σ with colour := upd σ.colour n "purple", buffered := upd σ.buffered n true, buffer := σ.buffer ++ [n] }
noncomputable def target (σ : St) (n : Int) : Option Int := if σ.sort n = "ref" then (match slot0 σ n with
  | .cell m => if m ∈ σ.keys then some m else none
  | .int _ => none) else some n
noncomputable def suspect (σ : St) (n : Int) : St := match target σ n with
  | some m => if σ.buffered m then σ else σ.buf m
  | none => σ
noncomputable def St.freeC (σ : St) (n : Int) : St := { σ with keys := σ.keys.filter (fun m => decide (m ≠ n)), cep := σ.cep + 1, freed := σ.freed + 1, log := σ.log ++ [.free n], buffer := if σ.buffered n then σ.buffer.erase n else σ.buffer }
noncomputable def St.setIsD (σ : St) (n : Int) : St := { σ with isD := upd σ.isD n true }
noncomputable def beginD (σ : St) (n : Int) : St := (((σ.setIsD n).logAdd (.destruct n)).cnt n 1).put .vars (-n) (.cell n)
noncomputable def lose (σ : St) : Val → St × List Task
  | .int _ => (σ, [])
  | .cell n => if n ∈ σ.keys then
      if (σ.cnt n (-1)).count n > 0 then (suspect (σ.cnt n (-1)) n, [])
      else if σ.hasD n && !σ.isD n then (beginD (σ.cnt n (-1)) n, [.deed (.unset (-n))])
      else ((σ.cnt n (-1)).freeC n, (hvals σ n).reverse.map .lose)
    else (σ, [])
noncomputable def taskStep (σ : St) : Task → St × List Task
  | .lose v => lose σ v
  | .deed d => ((change σ d).1, (change σ d).2.reverse.map .lose)
structure Fit (σ : St) : Prop where
  W : Wf σ
  log : σ.log.length ≤ 900
  vars : σ.vars.length ≤ 150
  buf : σ.buffer.length ≤ 150
  nb : ∀ n ∈ σ.keys, σ.buffered n = true → n ∈ σ.buffer
section
variable {σ : St} {H : Hp} {k b : Nat} {Q : V → Hp → Prop}
theorem Fit.cnt (F : Fit σ) (n d : Int) : Fit (σ.cnt n d) := ⟨F.W.cnt n d, F.log, F.vars, F.buf, F.nb⟩
theorem sp_change {d : Deed} (R : Rep σ H) (G : Good σ b) (hb : b + 4 ≤ 195) (q : EndD Q H (change σ d)) : callP tab (k + 7) "change" [.obj .root, .str d.name, .tup d.args] Q H := by
  refine c_fn rfl rfl ?_
  unfold b_change
  cases d with
  | setInt a n =>
    repeat (refine if_ne (t := "set_int") rfl (by decide) ?_)
    refine if_eq rfl ?_
    walk_at "mw"
    exact sp_set_int (k := k + 1) R G hb q
  | newArray a =>
    repeat (refine if_ne (t := "new_array") rfl (by decide) ?_)
    refine if_eq rfl ?_
    walk_at "mw"
    exact sp_new_array (k := k + 1) R G hb q
  | newObject a n =>
    repeat (refine if_ne (t := "new_object") rfl (by decide) ?_)
    refine if_eq rfl ?_
    walk_at "mw"
    exact sp_new_object (k := k + 1) R G hb q
  | assign a n =>
    repeat (refine if_ne (t := "assign") rfl (by decide) ?_)
    refine if_eq rfl ?_
    walk_at "mw"
    exact sp_assign (k := k + 1) R G hb q
  | put a n c =>
    repeat (refine if_ne (t := "put") rfl (by decide) ?_)
    refine if_eq rfl ?_
    walk_at "mw"
    exact sp_put (k := k) R G hb q
  | putRef a n c =>
    repeat (refine if_ne (t := "put_ref") rfl (by decide) ?_)
    refine if_eq rfl ?_
    walk_at "mw"
    exact sp_put_ref (k := k) R G hb q
  | makeRef a n =>
    repeat (refine if_ne (t := "make_ref") rfl (by decide) ?_)
    refine if_eq rfl ?_
    walk_at "mw"
    exact sp_make_ref (k := k) R G hb q
  | unset a =>
    repeat (refine if_ne (t := "unset") rfl (by decide) ?_)
    refine if_eq rfl ?_
    walk_at "mw"
    exact sp_unset (k := k + 4) R G q
  | unsetAt a n =>
    repeat (refine if_ne (t := "unset_at") rfl (by decide) ?_)
    refine if_eq rfl ?_
    walk_at "mw"
    exact sp_unset_at (k := k) R G hb q
theorem Rep.buf' (R : Rep σ H) (W : Wf σ) {n : Int} (hn : n ∈ σ.keys) : Rep (σ.buf n) ((H.set (.cell n) (cellO (σ.buf n) n)).set (.buf σ.bid) (.list ((σ.buffer ++ [n]).map V.int))) := by
  refine ⟨R.root, R.cells, R.vars, R.log, R.plan, R.tables, ?_, ?_, ?_, R.slots, R.nsl, ?_, ?_⟩
  · exact Hp.set_self _ _ _
  · intro j hj
    have : σ.bid < j := hj
    have h : j ≠ σ.bid := by lia
    simp [Hp.set_apply, h, R.bufN j this]
  · intro m hm
    by_cases h : m = n
    · subst h; simp [Hp.set_apply]
    · simp only [Hp.set_apply]
      have := R.cell m hm
      simp [h, this, cellO, St.buf, upd]
  · intro m hm
    have h : m ≠ n := fun e => by subst e; have := W.last m hn; have : σ.last < m := hm; lia
    have := R.new m hm
    simp [Hp.set_apply, h, this]
  · exact fresh_other (fun k e => by cases e) _ (fresh_other (fun k e => by cases e) _ R.fresh)
theorem sp_suspect {n : Int} (R : Rep σ H) (F : Fit σ) (hn : n ∈ σ.keys) (q : ∀ H', Rep (suspect σ n) H' → Lk H H' → Q .none H') : callP tab (k + 2) "suspect" [.obj .root, .obj (.cell n)] Q H := by
  refine c_fn rfl rfl ?_
  have main : ∀ (m : Int) (ρ : Env), m ∈ σ.keys → ρ "heap" = some (.obj .root) → ρ "cell" = some (.obj (.cell m)) → (∀ H', Rep (if σ.buffered m = true then σ else σ.buf m) H' → Lk H H' → Q .none H') →
      wpSs (callP tab (k + 1)) b_suspect.tail ρ (retQ Q) H := by
    intro m ρ hm h1 h2 qm
    unfold b_suspect
    rw [List.tail_cons]
    refine s_if (i_band (i_and (i_cmp (i_var h2 (i_none (k_nn (t_t rfl (i_and1 (i_not (i_attr (i_var h2 ⟨_, R.c_is_buffered hm, ?_⟩)))))))))))
    cases hb : σ.buffered m with
    | true =>
      rw [hb, if_pos rfl] at qm
      exact t_any rfl (t_f rfl (s_nil (s_seq (s_nil (r_next (qm H R (Lk.refl H)))))))
    | false =>
      rw [hb, if_neg (by simp)] at qm
      have hp : putAttrs H (.obj (.cell m)) ["colour", "is_buffered"] [.str "purple", .bool true] = some (H.set (.cell m) (cellO (σ.buf m) m)) := by
        have a1 := upd_self σ.colour m "purple"; have a2 := upd_self σ.buffered m true
        show (putAttr H (.obj (.cell m)) "colour" (.str "purple")).bind _ = _
        rw [put_of (R.cell m hm) (Nat.le_of_ble_eq_true rfl)]
        show (putAttr _ (.obj (.cell m)) "is_buffered" (.bool true)).bind some = _
        rw [put_of (Hp.set_self _ _ _) (Nat.le_of_ble_eq_true rfl), Hp.set_set]
        unfold cellO St.buf; dsimp only; rw [a1, a2]; rfl
      refine t_any rfl (t_t rfl (s_attrs (i_tup (i_cons (i_str (i_cons (i_bool (i_nil ⟨_, _, _, rfl, h2, hp, ?_⟩))))))))
      have e1 : attrOf (H.set (.cell m) (cellO (σ.buf m) m)) (.obj .root) "buffer" = some (.obj (.buf σ.bid)) := R.r_buffer
      have e2 : (H.set (.cell m) (cellO (σ.buf m) m)) (.buf σ.bid) = some (.list (σ.buffer.map V.int)) := R.buf
      have e3 : attrOf (H.set (.cell m) (cellO (σ.buf m) m)) (.obj (.cell m)) "number" = some (.int m) := attr_of (Hp.set_self _ _ _) rfl
      have R' := R.buf' F.W hm
      have L1 : Lk H (H.set (.cell m) (cellO (σ.buf m) m)) := Lk.other (by intro k e; cases e) _
      generalize H.set (.cell m) (cellO (σ.buf m) m) = H1 at e1 e2 e3 R' L1 ⊢
      have := F.buf
      refine s_expr (i_methL (i := .buf σ.bid) (fun _ p => i_attr (i_var h1 ⟨_, e1, p⟩)) e2 rfl (i_cons (i_attr (i_var h2 ⟨_, e3, i_nil (l_app e2 (by rw [List.length_map]; unfold LIM; lia) (s_nil (s_seq (s_nil (r_next ?_)))))⟩))))
      rw [List.map_append] at R'
      exact qm _ R' (L1.trans (Lk.other (by intro k e; cases e) _))
  unfold suspect target at q
  show wpSs _ (_ :: b_suspect.tail) _ _ _
  refine s_if (i_cmp (i_attr (i_var rfl ⟨_, R.c_sort hn, i_str ?_⟩)))
  by_cases hs : σ.sort n = "ref"
  · obtain ⟨v, hv⟩ := F.W.ref n hn hs
    have h0 : slot0 σ n = v := by simp [slot0, hv, List.lookup]
    have hi : idxOf H (.obj (.slots n)) (.int 0) = some v.toV := R.i_slots hn (by simp [hv, List.lookup])
    rw [h0] at q
    simp only [hs, if_true] at q
    rw [hs]
    refine k_eqs (t := true) (by decide) (t_t rfl (s_assign (i_call (i_cons (i_var rfl (i_cons (i_idx (i_attr (i_var rfl ⟨_, R.c_slots hn, i_int ⟨_, hi, i_nil ?_⟩⟩)))))))))
    refine sp_cell_of R ?_
    have nocell : ∀ ρ : Env, ρ "cell" = some .none → Q .none H → wpSs (callP tab (k + 1)) b_suspect.tail ρ (retQ Q) H := fun ρ h2 qn => by
      unfold b_suspect
      rw [List.tail_cons]
      exact s_if (i_band (i_and (i_cmp (i_var h2 (i_none (k_nn0 (t_f rfl (t_f rfl (s_nil (s_seq (s_nil (r_next qn)))))))))))) 
    cases v with
    | int i => exact s_nil (s_seq (nocell _ rfl (q H R (Lk.refl H))))
    | cell m =>
      by_cases hm : m ∈ σ.keys
      · simp only [cellV, hm, if_true] at q ⊢
        exact s_nil (s_seq (main m _ hm rfl rfl q))
      · simp only [cellV, hm, if_false] at q ⊢
        exact s_nil (s_seq (nocell _ rfl (q H R (Lk.refl H))))
  · simp only [hs, if_false] at q
    exact k_eqs (t := false) (by simpa using hs) (t_f rfl (s_nil (s_seq (main n _ hn rfl rfl q))))
end
end Mine
end
noncomputable section
namespace Mine
open PySem PySem.W PyProof.Rows
section
variable {σ : St} {H : Hp} {k b : Nat} {Q : V → Hp → Prop}
theorem for_nil {C : CallP} {r : List LS} {QS : PostS} {ρ : Env} {xs : List String} {kk : SrcK} {b : List LS} {v : V} {keep : Option Id} (hs : srcOf kk H v = some ([], keep)) (q : wpSs C r ρ QS H) : ForI C xs kk b r ρ QS v H := by
  refine for_i (fun _ ρ' H' => ρ' = ρ ∧ H' = H) hs ⟨rfl, rfl⟩ ?_ ?_ ?_
  · rintro j ρ' H' ⟨rfl, rfl⟩; cases keep <;> first | exact trivial | rfl
  · rintro j ρ' H' it h; cases h
  · rintro ρ' H' ⟨rfl, rfl⟩; exact q
theorem sp_cleared {n : Int} (R : Rep σ H) (q : ∀ N H', Rep σ H' → Lk H H' → Q (.obj (.loc N)) H') : callP tab (k + 1) "cleared" [.obj .root, .int n] Q H := by
  refine c_fn rfl rfl ?_
  unfold b_cleared
  refine s_assign (i_list (i_nil (new_loc R [] fun N H1 R1 L1 hN e1 => ?_)))
  refine s_for (i_attr (i_var rfl ⟨_, R1.r_tables, for_nil (keep := some .tablesL) (srcL R1.tables) (s_ret (i_var rfl (r_ret (q N _ R1 L1))))⟩))
theorem Rep.freed_of {H' : Hp} (R : Rep σ H) (W : Wf σ) {n : Int} (hn : n ∈ σ.keys) (h1 : H' .root = some (rootO (σ.freeC n))) (h2 : H' .cellsD = some (.dict (σ.freeC n).cep ((σ.freeC n).keys.map fun n => (n, V.obj (.cell n)))))
    (h3 : H' .logL = some (.list ((σ.freeC n).log.map LogE.toV))) (h4 : H' (.buf σ.bid) = some (.list ((σ.freeC n).buffer.map V.int)))
    (h5 : ∀ i, i ≠ .root → i ≠ .cellsD → i ≠ .logL → i ≠ .buf σ.bid → i ≠ .cell n → i ≠ .nslots n → H' i = H i) : Rep (σ.freeC n) H' := by
  have hk : ∀ m ∈ (σ.freeC n).keys, m ∈ σ.keys ∧ m ≠ n := fun m hm => by simpa [St.freeC] using hm
  refine ⟨h1, h2, ?_, h3, ?_, ?_, h4, fun j hj => ?_, fun m hm => ?_, fun m hm => ?_, fun m hm => ?_, fun m hm => ?_, ?_⟩
  · rw [h5 _ (by simp) (by simp) (by simp) (by simp) (by simp) (by simp)]; exact R.vars
  · rw [h5 _ (by simp) (by simp) (by simp) (by simp) (by simp) (by simp)]; exact R.plan
  · rw [h5 _ (by simp) (by simp) (by simp) (by simp) (by simp) (by simp)]; exact R.tables
  · have hj' : σ.bid < j := hj
    rw [h5 _ (by simp) (by simp) (by simp) (by simp; lia) (by simp) (by simp)]; exact R.bufN j hj'
  · obtain ⟨a, b⟩ := hk m hm
    rw [h5 _ (by simp) (by simp) (by simp) (by simp) (by simpa using b) (by simp)]; exact R.cell m a
  · obtain ⟨a, b⟩ := hk m hm
    rw [h5 _ (by simp) (by simp) (by simp) (by simp) (by simp) (by simp)]; exact R.slots m a
  · obtain ⟨a, b⟩ := hk m hm
    rw [h5 _ (by simp) (by simp) (by simp) (by simp) (by simp) (by simpa using b)]; exact R.nsl m a
  · have hm' : σ.last < m := hm
    have b : m ≠ n := fun e => by subst e; have := W.last m hn; lia
    obtain ⟨x, y, z⟩ := R.new m hm'
    rw [h5 (.cell m) (by simp) (by simp) (by simp) (by simp) (by simpa using b) (by simp), h5 (.slots m) (by simp) (by simp) (by simp) (by simp) (by simp) (by simp), h5 (.nslots m) (by simp) (by simp) (by simp) (by simp) (by simp) (by simpa using b)]
    exact ⟨x, y, z⟩
  · obtain ⟨N, h⟩ := R.fresh
    exact ⟨N, fun k hk => by rw [h5 _ (by simp) (by simp) (by simp) (by simp) (by simp) (by simp)]; exact h k hk⟩
noncomputable def cellX (σ : St) (n : Int) (s : Id) (b f : Bool) : O := .inst .cell [("sort", .str (σ.sort n)), ("number", .int n), ("count", .int (σ.count n)), ("slots", .obj s), ("colour", .str (σ.colour n)), ("is_buffered", .bool b),
  ("has_destructor", .bool (σ.hasD n)), ("is_destructed", .bool (σ.isD n)), ("is_freed", .bool f), ("weak", .none)]
theorem cx_weak {K : Hp} {n : Int} {s : Id} {b f : Bool} (h : K (.cell n) = some (cellX σ n s b f)) : putAttr K (.obj (.cell n)) "weak" .none = some (K.set (.cell n) (cellX σ n s b f)) := put_of h (Nat.le_of_ble_eq_true rfl)
theorem cx_slots {K : Hp} {n : Int} {s t : Id} {b f : Bool} (h : K (.cell n) = some (cellX σ n s b f)) : putAttr K (.obj (.cell n)) "slots" (.obj t) = some (K.set (.cell n) (cellX σ n t b f)) := put_of h (Nat.le_of_ble_eq_true rfl)
theorem cx_buf {K : Hp} {n : Int} {s : Id} {b f t : Bool} (h : K (.cell n) = some (cellX σ n s b f)) : putAttr K (.obj (.cell n)) "is_buffered" (.bool t) = some (K.set (.cell n) (cellX σ n s t f)) := put_of h (Nat.le_of_ble_eq_true rfl)
theorem cx_freed {K : Hp} {n : Int} {s : Id} {b f t : Bool} (h : K (.cell n) = some (cellX σ n s b f)) : putAttr K (.obj (.cell n)) "is_freed" (.bool t) = some (K.set (.cell n) (cellX σ n s b t)) := put_of h (Nat.le_of_ble_eq_true rfl)
theorem cx_num {K : Hp} {n : Int} {s : Id} {b f : Bool} (h : K (.cell n) = some (cellX σ n s b f)) : attrOf K (.obj (.cell n)) "number" = some (.int n) := attr_of h rfl
theorem cx_isb {K : Hp} {n : Int} {s : Id} {b f : Bool} (h : K (.cell n) = some (cellX σ n s b f)) : attrOf K (.obj (.cell n)) "is_buffered" = some (.bool b) := attr_of h rfl
theorem rt_cells {K : Hp} (h : K .root = some (rootO σ)) : attrOf K (.obj .root) "cells" = some (.obj .cellsD) := attr_of h rfl
theorem rt_freed {K : Hp} (h : K .root = some (rootO σ)) : attrOf K (.obj .root) "freed" = some (.int σ.freed) := attr_of h rfl
theorem rt_log {K : Hp} (h : K .root = some (rootO σ)) : attrOf K (.obj .root) "log" = some (.obj .logL) := attr_of h rfl
theorem rt_buf {K : Hp} (h : K .root = some (rootO σ)) : attrOf K (.obj .root) "buffer" = some (.obj (.buf σ.bid)) := attr_of h rfl
theorem rt_put {K : Hp} {n : Int} (h : K .root = some (rootO σ)) : putAttr K (.obj .root) "freed" (.int (σ.freed + 1)) = some (K.set .root (rootO (σ.freeC n))) := put_of h (Nat.le_of_ble_eq_true rfl)
theorem Hp.sne {K : Hp} {i j : Id} {o : O} (h : j ≠ i) : K.set i o j = K j := by rw [Hp.set_apply, if_neg h]
theorem l_rem {i : Id} {ns : List Int} {m : Int} {K : Hp} (h : K i = some (.list (ns.map V.int))) (hm : m ∈ ns) (q : Q .none (K.set i (.list ((ns.erase m).map V.int)))) : methL .remove i [.int m] Q K := by
  exact ⟨_, h, m, ns, rfl, intsOf_map _, hm, q⟩
theorem d_del {K : Hp} {i : Id} {ep : Nat} {es : List (Int × V)} {m : Int} (h : K i = some (.dict ep es)) (hm : hasK es m = true) : delIdxH K (.obj i) (.int m) = some (K.set i (.dict (ep + 1) (delK es m))) := deli_of h hm
theorem free_tail {C : CallP} {n : Int} {K : Hp} {ρ : Env} {s : Id} {b : Bool} {L : V} (hn : n ∈ σ.keys) (hl : σ.log.length + 1 ≤ LIM) (h1 : ρ "heap" = some (.obj .root)) (h2 : ρ "cell" = some (.obj (.cell n))) (h3 : ρ "losses" = some L)
    (kc : K (.cell n) = some (cellX σ n s b false)) (kr : K .root = some (rootO σ)) (kd : K .cellsD = some (.dict σ.cep (σ.keys.map fun n => (n, V.obj (.cell n))))) (kl : K .logL = some (.list (σ.log.map LogE.toV)))
    (q : ∀ K' : Hp, K' .root = some (rootO (σ.freeC n)) → K' .cellsD = some (.dict (σ.freeC n).cep ((σ.freeC n).keys.map fun n => (n, V.obj (.cell n)))) → K' .logL = some (.list ((σ.freeC n).log.map LogE.toV)) →
      (∀ i, i ≠ .root → i ≠ .cellsD → i ≠ .logL → i ≠ .cell n → K' i = K i) → Q L K') : wpSs C (b_free_cell.drop 5) ρ (retQ Q) K := by
  refine s_attr (i_bool (i_var h2 ⟨_, cx_freed kc, ?_⟩))
  have c1 : (K.set (.cell n) (cellX σ n s b true)) (.cell n) = some (cellX σ n s b true) := Hp.set_self _ _ _
  have o1 : ∀ i, i ≠ .cell n → (K.set (.cell n) (cellX σ n s b true)) i = K i := fun i h => Hp.sne h
  generalize K.set (.cell n) (cellX σ n s b true) = K1 at c1 o1 ⊢
  rw [← o1 .root (by intro h; cases h)] at kr
  rw [← o1 .cellsD (by intro h; cases h)] at kd
  rw [← o1 .logL (by intro h; cases h)] at kl
  refine s_del (i_attr (i_var h1 ⟨_, rt_cells kr, i_attr (i_var h2 ⟨_, cx_num c1, _, d_del kd (by rw [hasK_keys]; exact decide_eq_true hn), ?_⟩)⟩))
  rw [delK_keys]
  have d2 := Hp.set_self K1 .cellsD (.dict (σ.cep + 1) ((σ.keys.filter fun m => decide (m ≠ n)).map fun n => (n, V.obj (.cell n))))
  have o2 : ∀ i, i ≠ .cellsD → (K1.set .cellsD (.dict (σ.cep + 1) ((σ.keys.filter fun m => decide (m ≠ n)).map fun n => (n, V.obj (.cell n))))) i = K1 i := fun i h => Hp.sne h
  generalize K1.set .cellsD (.dict (σ.cep + 1) ((σ.keys.filter fun m => decide (m ≠ n)).map fun n => (n, V.obj (.cell n)))) = K2 at d2 o2 ⊢
  rw [← o2 .root (by intro h; cases h)] at kr
  rw [← o2 .logL (by intro h; cases h)] at kl
  rw [← o2 (.cell n) (by intro h; cases h)] at c1
  refine s_aug (i_var h1 ⟨_, rt_freed kr, i_int (b_addi ⟨_, rt_put (n := n) kr, ?_⟩)⟩)
  have r3 := Hp.set_self K2 .root (rootO (σ.freeC n))
  have o3 : ∀ i, i ≠ .root → (K2.set .root (rootO (σ.freeC n))) i = K2 i := fun i h => Hp.sne h
  generalize K2.set .root (rootO (σ.freeC n)) = K3 at r3 o3 ⊢
  rw [← o3 .logL (by intro h; cases h)] at kl
  rw [← o3 (.cell n) (by intro h; cases h)] at c1
  refine s_expr (i_methL (i := .logL) (fun _ p => i_attr (i_var h1 ⟨_, rt_log r3, p⟩)) kl rfl (i_cons (i_tup (i_cons (i_str (i_cons (i_attr (i_var h2 ⟨_, cx_num c1, i_nil (i_nil (l_app kl (by rw [List.length_map]; exact hl) (s_ret (i_var h3 (r_ret ?_)))))⟩))))))))
  refine q _ ?_ ?_ ?_ ?_
  · rw [Hp.sne (by intro h; cases h)]; exact r3
  · rw [Hp.sne (by intro h; cases h), o3 _ (by intro h; cases h)]; exact d2
  · rw [Hp.set_self]; unfold St.freeC; rw [List.map_append]; rfl
  · intro i a1 a2 a3 a4
    rw [Hp.sne a3, o3 _ a1, o2 _ a2, o1 _ a4]
theorem sp_free_cell {n : Int} (R : Rep σ H) (F : Fit σ) (hn : n ∈ σ.keys)
    (q : ∀ N H', Rep (σ.freeC n) H' → Lk H H' → H (.loc N) = none → H' (.loc N) = some (.list ((hvals σ n).map Val.toV)) → Q (.obj (.loc N)) H') : callP tab (k + 2) "free_cell" [.obj .root, .obj (.cell n)] Q H := by
  refine c_fn rfl rfl ?_
  unfold b_free_cell
  walk_at "mw"
  refine sp_held_by R F.W hn fun N H1 R1 L1 hN e1 => ?_
  walk_at "mw"
  refine sp_cleared R1 fun M H2 R2 L2 => ?_
  have e2 := L2 N _ e1
  have LL := L1.trans L2
  have hl := F.log
  have c2 : H2 (.cell n) = some (cellX σ n (.slots n) (σ.buffered n) false) := R2.cell n hn
  refine s_attr (i_none (i_var rfl ⟨_, cx_weak c2, ?_⟩))
  have c3 := Hp.set_self H2 (.cell n) (cellX σ n (.slots n) (σ.buffered n) false)
  have o3 : ∀ i, i ≠ .cell n → (H2.set (.cell n) (cellX σ n (.slots n) (σ.buffered n) false)) i = H2 i := fun i h => Hp.sne h
  generalize H2.set (.cell n) (cellX σ n (.slots n) (σ.buffered n) false) = H3 at c3 o3 ⊢
  refine s_attr (i_dict ⟨.nslots n, (o3 _ (by intro h; cases h)).trans (R2.nsl n hn), i_var rfl ⟨_, cx_slots (K := H3.set (.nslots n) (.dict 0 [])) (t := .nslots n) ((Hp.sne (by intro h; cases h)).trans c3), ?_⟩⟩)
  have c4 := Hp.set_self (H3.set (.nslots n) (.dict 0 [])) (.cell n) (cellX σ n (.nslots n) (σ.buffered n) false)
  have o4 : ∀ i, i ≠ .cell n → i ≠ .nslots n → ((H3.set (.nslots n) (.dict 0 [])).set (.cell n) (cellX σ n (.nslots n) (σ.buffered n) false)) i = H2 i := fun i h h' => (Hp.sne h).trans ((Hp.sne h').trans (o3 i h))
  generalize (H3.set (.nslots n) (.dict 0 [])).set (.cell n) (cellX σ n (.nslots n) (σ.buffered n) false) = H4 at c4 o4 ⊢
  have fin : ∀ (K : Hp) (b : Bool), K (.cell n) = some (cellX σ n (.nslots n) b false) → (∀ i, i ≠ .cell n → i ≠ .nslots n → i ≠ .buf σ.bid → K i = H2 i) → K (.buf σ.bid) = some (.list ((σ.freeC n).buffer.map V.int)) →
      ∀ ρ : Env, ρ "heap" = some (.obj .root) → ρ "cell" = some (.obj (.cell n)) → ρ "losses" = some (.obj (.loc N)) → wpSs (callP tab (k + 1)) (b_free_cell.drop 5) ρ (retQ Q) K := by
    intro K b kc ko kb ρ h1 h2 h3
    refine free_tail hn (by unfold LIM; lia) h1 h2 h3 kc ((ko _ (by intro h; cases h) (by intro h; cases h) (by intro h; cases h)).trans R2.root) ((ko _ (by intro h; cases h) (by intro h; cases h) (by intro h; cases h)).trans R2.cells)
      ((ko _ (by intro h; cases h) (by intro h; cases h) (by intro h; cases h)).trans R2.log) fun K' q1 q2 q3 q4 => ?_
    refine q N K' (R2.freed_of F.W hn q1 q2 q3 ((q4 _ (by intro h; cases h) (by intro h; cases h) (by intro h; cases h) (by intro h; cases h)).trans kb) ?_) ?_ hN ?_
    · intro i a1 a2 a3 a4 a5 a6
      rw [q4 i a1 a2 a3 a5, ko i a5 a6 a4]
    · intro j o e
      rw [q4 _ (by intro h; cases h) (by intro h; cases h) (by intro h; cases h) (by intro h; cases h), ko _ (by intro h; cases h) (by intro h; cases h) (by intro h; cases h)]
      exact LL j o e
    · rw [q4 _ (by intro h; cases h) (by intro h; cases h) (by intro h; cases h) (by intro h; cases h), ko _ (by intro h; cases h) (by intro h; cases h) (by intro h; cases h)]
      exact e2
  have hbuf : H4 (.buf σ.bid) = some (.list (σ.buffer.map V.int)) := (o4 _ (by intro h; cases h) (by intro h; cases h)).trans R2.buf
  refine s_if (i_attr (i_var rfl ⟨_, cx_isb c4, ?_⟩))
  cases hb : σ.buffered n with
  | true =>
    refine t_t rfl (s_attr (i_bool (i_var rfl ⟨_, cx_buf c4, ?_⟩)))
    have c5 := Hp.set_self H4 (.cell n) (cellX σ n (.nslots n) false false)
    have o5 : ∀ i, i ≠ .cell n → (H4.set (.cell n) (cellX σ n (.nslots n) false false)) i = H4 i := fun i h => Hp.sne h
    generalize H4.set (.cell n) (cellX σ n (.nslots n) false false) = H5 at c5 o5 ⊢
    have hbuf5 := (o5 (.buf σ.bid) (by intro h; cases h)).trans hbuf
    have hr : H5 .root = some (rootO σ) := (o5 _ (by intro h; cases h)).trans ((o4 _ (by intro h; cases h) (by intro h; cases h)).trans R2.root)
    refine s_expr (i_methL (i := .buf σ.bid) (fun _ p => i_attr (i_var rfl ⟨_, rt_buf hr, p⟩)) hbuf5 rfl (i_cons (i_attr (i_var rfl ⟨_, cx_num c5, i_nil (l_rem hbuf5 (F.nb n hn hb) (s_nil (s_seq ?_)))⟩))))
    refine fin _ false ((Hp.sne (by intro h; cases h)).trans c5) (fun i a1 a2 a3 => (Hp.sne a3).trans ((o5 i a1).trans (o4 i a1 a2))) ?_ _ rfl rfl rfl
    rw [Hp.set_self]; unfold St.freeC; rw [hb]; rfl
  | false =>
    refine t_f rfl (s_nil (s_seq ?_))
    refine fin _ _ c4 (fun i a1 a2 _ => o4 i a1 a2) ?_ _ rfl rfl rfl
    rw [hbuf]; unfold St.freeC; rw [hb]; rfl
theorem sp_wants_destructor {n : Int} (R : Rep σ H) (hn : n ∈ σ.keys) (q : Q (.bool (σ.hasD n && !σ.isD n)) H) : callP tab (k + 1) "wants_destructor" [.obj (.cell n)] Q H := by
  refine c_fn rfl rfl ?_
  unfold b_wants_destructor
  refine s_ret (i_band (i_and (i_attr (i_var rfl ⟨_, R.c_has_destructor hn, ?_⟩))))
  cases h : σ.hasD n with
  | true =>
    rw [h] at q
    exact t_t rfl (i_and1 (i_not (i_attr (i_var rfl ⟨_, R.c_is_destructed hn, _, rfl, r_ret q⟩))))
  | false =>
    rw [h] at q
    exact t_f rfl (r_ret q)
theorem sp_losing {N : Nat} {vs : List Val} (R : Rep σ H) (hN : H (.loc N) = some (.list (vs.map Val.toV)))
    (q : ∀ M H', Rep σ H' → Lk H H' → H (.loc M) = none → H' (.loc M) = some (.list ((vs.reverse.map Task.lose).map Task.toV)) → Q (.obj (.loc M)) H') : callP tab (k + 1) "losing" [.obj (.loc N)] Q H := by
  refine c_fn rfl rfl ?_
  unfold b_losing
  refine s_ret (i_comp (i_var rfl (comp_pure (items := (vs.map Val.toV).reverse) (keep := some (.loc N)) (fun _ => true) (fun v => .tup [.str "lose", v]) (srcR hN) (fun _ _ _ q' => i_c0 q') (fun _ _ _ _ q' => i_tup (i_cons (i_str (i_cons (i_var rfl (i_nil q')))))) ?_)))
  · refine new_loc R _ fun M H1 R1 L1 hM e1 => r_ret (q M H1 R1 L1 hM ?_)
    rw [e1, Hp.set_self, List.filter_eq_self.mpr (fun _ _ => rfl), ← List.map_reverse, List.map_map, List.map_map]; rfl
theorem Rep.setIsD (R : Rep σ H) (W : Wf σ) {n : Int} (hn : n ∈ σ.keys) : Rep (σ.setIsD n) (H.set (.cell n) (cellO (σ.setIsD n) n)) :=
  R.recd hn (W.last n hn) rfl rfl rfl rfl rfl rfl rfl rfl rfl rfl rfl fun m h => by unfold cellO St.setIsD; dsimp only; rw [upd_ne _ _ h]
theorem Rep.p_isD (R : Rep σ H) {n : Int} (hn : n ∈ σ.keys) : putAttr H (.obj (.cell n)) "is_destructed" (.bool true) = some (H.set (.cell n) (cellO (σ.setIsD n) n)) := by
  have e := upd_self σ.isD n true; unfold cellO St.setIsD; dsimp only; rw [e]; exact put_of (R.cell n hn) (Nat.le_of_ble_eq_true rfl)
theorem Fit.setIsD (F : Fit σ) (n : Int) : Fit (σ.setIsD n) := ⟨⟨F.W.last, F.W.nkeys, F.W.nlog, F.W.nvars, F.W.nbuf, F.W.nslots, F.W.ref, F.W.ndk, F.W.ndv, F.W.nds⟩, F.log, F.vars, F.buf, F.nb⟩
theorem p_put {p : Pl} {j : Int} {v : Val} (R : Rep σ H) (W : Wf σ) (hp : σ.ok p) : ∃ H', putIdx H (.obj p.id) (.int j) v.toV = some H' ∧ Rep (σ.put p j v) H' ∧ Lk H H' := by
  have hat := R.at hp
  have hl : (putA (σ.at p) j v).length ≤ LIM := by
    have := W.at hp; have := @putA_len (σ.at p) j v; unfold LIM; lia
  have e2 : putIdx H (.obj p.id) (.int j) v.toV = some (H.set p.id (.dict (if ((σ.at p).lookup j).isSome = true then σ.ep p else σ.ep p + 1) ((putA (σ.at p) j v).map sv))) := by
    exact puti_map hat hl
  exact ⟨_, e2, R.to hp W.last _ _, Lk.other (by intro k e; cases p <;> cases e) _⟩
theorem sp_begin_destructor {n : Int} (R : Rep σ H) (F : Fit σ) (hn : n ∈ σ.keys)
    (q : ∀ N H', Rep (beginD σ n) H' → Lk H H' → H (.loc N) = none → H' (.loc N) = some (.list ([Task.deed (.unset (-n))].map Task.toV)) → Q (.obj (.loc N)) H') : callP tab (k + 3) "begin_destructor" [.obj .root, .obj (.cell n)] Q H := by
  refine c_fn rfl rfl ?_
  unfold b_begin_destructor
  have hl := F.log
  have R1 := R.setIsD F.W hn
  have L1 : Lk H (H.set (.cell n) (cellO (σ.setIsD n) n)) := Lk.other (by intro k e; cases e) _
  refine s_attr (i_bool (i_var rfl ⟨_, R.p_isD hn, ?_⟩))
  generalize H.set (.cell n) (cellO (σ.setIsD n) n) = H1 at R1 L1 ⊢
  have F1 := F.setIsD n
  have hn1 : n ∈ (σ.setIsD n).keys := hn
  refine s_expr (i_methL (i := .logL) (fun _ p => i_attr (i_var rfl ⟨_, R1.r_log, p⟩)) R1.log rfl (i_cons (i_tup (i_cons (i_str (i_cons (i_attr (i_var rfl ⟨_, R1.c_number hn1, i_nil (i_nil (m_log R1 F1.W (by show σ.log.length + 1 ≤ 1000; lia) (e := .destruct n) rfl ?_))⟩))))))))
  have R2 := R1.logAdd (.destruct n)
  have L2 : Lk H1 (H1.set .logL (.list (((σ.setIsD n).log ++ [LogE.destruct n]).map LogE.toV))) := Lk.other (by intro k e; cases e) _
  generalize H1.set .logL (.list (((σ.setIsD n).log ++ [LogE.destruct n]).map LogE.toV)) = H2 at R2 L2 ⊢
  have W2 : Wf ((σ.setIsD n).logAdd (.destruct n)) := F1.W.logAdd _ (by show σ.log.length + 1 ≤ 1000; lia)
  have hn2 : n ∈ ((σ.setIsD n).logAdd (.destruct n)).keys := hn
  refine s_idx (i_call (i_cons (i_var rfl (i_cons (i_tup (i_cons (i_str (i_cons (i_attr (i_var rfl ⟨_, R2.c_number hn2, i_nil (i_nil ?_)⟩))))))))))
  refine sp_gain (v := .cell n) (k := k) R2 W2 hn2 fun H3 R3 L3 => ?_
  have R3' : Rep (((σ.setIsD n).logAdd (.destruct n)).cnt n 1) H3 := R3
  have hn3 : n ∈ (((σ.setIsD n).logAdd (.destruct n)).cnt n 1).keys := hn
  obtain ⟨H4, e4, R4, L4⟩ := p_put (p := .vars) (j := -n) (v := .cell n) R3' (W2.cnt _ _) trivial
  have e4' : putIdx H3 (.obj .varsD) (.int (-n)) (Val.cell n).toV = some H4 := e4
  refine i_attr (i_var rfl ⟨_, R3'.r_vars, i_neg (i := n) (fun _ p => i_attr (i_var rfl ⟨_, R3'.c_number hn3, p⟩)) ⟨_, e4', ?_⟩⟩)
  have R4' : Rep (beginD σ n) H4 := R4
  have hn4 : n ∈ (beginD σ n).keys := by show n ∈ (St.to _ _ _ _).keys; rw [to_keys]; exact hn
  refine s_assign (i_list (i_cons (i_tup (i_cons (i_str (i_cons (i_tup (i_cons (i_str (i_cons (i_tup (i_cons (i_neg (i := n) (fun _ p => i_attr (i_var rfl ⟨_, R4'.c_number hn4, p⟩)) (i_nil (i_nil (i_nil (i_nil ?_)))))))))))))))))
  refine new_loc R4' _ fun N H5 R5 L5 hN5 e5 => ?_
  have LL := (((L1.trans L2).trans L3).trans L4)
  have hN : H (.loc N) = none := by
    cases e : H (.loc N) with
    | none => rfl
    | some o => rw [LL N o e] at hN5; cases hN5
  have tail : ∀ ρ : Env, ρ "heap" = some (.obj .root) → ρ "cell" = some (.obj (.cell n)) → ρ "tasks" = some (.obj (.loc N)) → wpSs (callP tab (k + 2)) (b_begin_destructor.drop 4) ρ (retQ Q) H5 := by
    intro ρ h1 h2 h3
    refine s_for (i_methD (i := .planD) (fun _ p => i_attr (i_var h1 ⟨_, R5.r_plan, p⟩)) R5.plan (.inl rfl) (i_cons (i_attr (i_var h2 ⟨_, R5.c_number hn4, ?_⟩))))
    refine i_cons (i_list (i_nil (new_loc R5 _ fun M H6 R6 L6 hM e6 => ?_)))
    have eM : H6 (.loc M) = some (.list []) := by rw [e6, Hp.set_self]
    refine i_nil ?_
    have hpl := R6.plan
    clear e6
    refine d_get2 hpl (for_nil (keep := some (.loc M)) (srcR eM) (s_ret (i_var h3 (r_ret (q N _ R6 ((LL.trans L5).trans L6) hN ?_)))))
    refine L6 _ _ ?_
    rw [e5, Hp.set_self]; rfl
  exact tail _ rfl rfl rfl
end
end Mine
end
noncomputable section
namespace Mine
open PySem PySem.W PyProof.Rows
noncomputable def LkX (N : Nat) (H H' : Hp) : Prop := ∀ k o, k ≠ N → H (.loc k) = some o → H' (.loc k) = some o
theorem LkX.refl (N : Nat) (H : Hp) : LkX N H H := fun _ _ _ e => e
theorem LkX.trans {N : Nat} {H H' H'' : Hp} (a : LkX N H H') (b : LkX N H' H'') : LkX N H H'' := fun k o h e => b k o h (a k o h e)
theorem Lk.x {N : Nat} {H H' : Hp} (a : Lk H H') : LkX N H H' := fun k o _ e => a k o e
theorem LkX.set (N : Nat) (H : Hp) (o : O) : LkX N H (H.set (.loc N) o) := fun k o' h e => by
  rw [Hp.set_ne _ _ (by simpa using h)]; exact e
theorem LkX.back {N : Nat} {H H1 H2 : Hp} (a : Lk H H1) (hN : H (.loc N) = none) (b : LkX N H1 H2) : Lk H H2 := fun k o e => by
  have h : k ≠ N := fun z => by subst z; rw [hN] at e; cases e
  exact b k o h (a k o e)
theorem Lk.none {N : Nat} {H H' : Hp} (L : Lk H H') (h : H' (.loc N) = none) : H (.loc N) = none := by
  cases e : H (.loc N) with
  | none => rfl
  | some o => rw [L N o e] at h; cases h
noncomputable abbrev EndT (Q : V → Hp → Prop) (H : Hp) (r : St × List Task) : Prop := ∀ N H', Rep r.1 H' → Lk H H' → H (.loc N) = none → H' (.loc N) = some (.list (r.2.map Task.toV)) → Q (.obj (.loc N)) H'
theorem list_end {α : Type} : ∀ (l : List α), l ≠ [] → ∃ r a, l = r ++ [a] := fun l h => ⟨l.dropLast, l.getLast h, (List.dropLast_concat_getLast h).symm⟩
noncomputable def Steps (I : Nat → St → List Task → Prop) : Prop := ∀ m σ ts t, I m σ (ts ++ [t]) → Fit σ ∧ ts.length ≤ 50000 ∧ (taskStep σ t).2.length ≤ 300 ∧ (∀ d, t = .deed d → Good σ 190) ∧
  ∃ m', m' < m ∧ I m' (taskStep σ t).1 (ts ++ (taskStep σ t).2)
section
variable {σ : St} {H : Hp} {k b : Nat} {Q : V → Hp → Prop}
theorem sp_lose {v : Val} (R : Rep σ H) (F : Fit σ) (q : EndT Q H (lose σ v)) : callP tab (k + 4) "lose" [.obj .root, v.toV] Q H := by
  refine c_fn rfl rfl ?_
  unfold b_lose
  walk_at "mw"
  refine sp_cell_of R ?_
  cases v with
  | int i =>
    refine s_if (i_cmp (i_var rfl (i_none (k_in1 (t_t rfl (s_ret (i_list (i_nil (new_loc R [] fun N H1 R1 L1 hN e1 => ?_)))))))))
    exact s_seqr (r_ret (q N H1 R1 L1 hN (by rw [e1, Hp.set_self]; rfl)))
  | cell n =>
    by_cases hn : n ∈ σ.keys
    · simp only [lose, hn, if_true] at q
      have hcv : cellV σ (.cell n) = .obj (.cell n) := by simp only [cellV, hn, if_true]
      rw [hcv]
      have R1 := R.cnt F.W hn (-1)
      have L1 : Lk H (H.set (.cell n) (cellO (σ.cnt n (-1)) n)) := Lk.other (by intro k e; cases e) _
      have F1 := F.cnt n (-1)
      have hn1 : n ∈ (σ.cnt n (-1)).keys := hn
      refine s_if (i_cmp (i_var rfl (i_none (k_in0 (t_f rfl (s_nil (s_seq ?_)))))))
      refine s_aug (i_var rfl ⟨_, R.c_count hn, i_int (b_subi ⟨_, R.p_dec hn, ?_⟩)⟩)
      generalize H.set (.cell n) (cellO (σ.cnt n (-1)) n) = H1 at R1 L1 ⊢
      have hd : (σ.cnt n (-1)).hasD n = σ.hasD n ∧ (σ.cnt n (-1)).isD n = σ.isD n := ⟨rfl, rfl⟩
      have hv : hvals (σ.cnt n (-1)) n = hvals σ n := rfl
      rw [← hv] at q
      rw [← hd.1, ← hd.2] at q
      generalize σ.cnt n (-1) = σ1 at R1 F1 hn1 q ⊢
      refine s_if (i_cmp (i_attr (i_var rfl ⟨_, R1.c_count hn1, i_int ?_⟩)))
      by_cases hc : σ1.count n > 0
      · simp only [hc, if_true] at q
        refine k_gt (t := true) (by simpa using hc) (t_t rfl ?_)
        walk_at "mw"
        refine sp_suspect (k := k + 1) R1 F1 hn1 fun H2 R2 L2 => ?_
        walk_at "mw"
        refine new_loc R2 [] fun N H3 R3 L3 hN e3 => ?_
        exact s_seqr (r_ret (q N H3 R3 ((L1.trans L2).trans L3) ((L1.trans L2).none hN) (by rw [e3, Hp.set_self]; rfl)))
      · simp only [hc, if_false] at q
        refine k_gt (t := false) (by simpa using hc) (t_f rfl (s_nil (s_seq ?_)))
        walk_at "mw"
        refine sp_wants_destructor (k := k + 2) R1 hn1 ?_
        cases hw : (σ1.hasD n && !σ1.isD n) with
        | true =>
          simp only [hw, if_true] at q
          walk_at "mw"
          refine sp_begin_destructor (k := k) R1 F1 hn1 fun N H2 R2 L2 hN e2 => ?_
          exact s_seqr (r_ret (q N H2 R2 (L1.trans L2) (L1.none hN) e2))
        | false =>
          simp only [hw, Bool.false_eq_true, if_false] at q
          walk_at "mw"
          refine sp_free_cell (k := k + 1) R1 F1 hn1 fun N H2 R2 L2 hN e2 => ?_
          walk_at "mw"
          refine sp_losing (k := k + 2) R2 e2 fun M H3 R3 L3 hM e3 => ?_
          exact r_ret (q M H3 R3 ((L1.trans L2).trans L3) ((L1.trans L2).none hM) e3)
    · simp only [lose, hn, if_false] at q
      have hcv : cellV σ (.cell n) = .none := by simp only [cellV, hn, if_false]
      rw [hcv]
      refine s_if (i_cmp (i_var rfl (i_none (k_in1 (t_t rfl (s_ret (i_list (i_nil (new_loc R [] fun N H1 R1 L1 hN e1 => ?_)))))))))
      exact s_seqr (r_ret (q N H1 R1 L1 hN (by rw [e1, Hp.set_self]; rfl)))
theorem sp_settle {I : Nat → St → List Task → Prop} (S : Steps I) {N m : Nat} {ts : List Task} (R : Rep σ H) (hN : H (.loc N) = some (.list (ts.map Task.toV))) (h : I m σ ts)
    (q : ∀ m' σ' H', I m' σ' [] → Rep σ' H' → LkX N H H' → Q .none H') : callP tab (k + 8) "settle" [.obj .root, .obj (.loc N)] Q H := by
  refine c_fn rfl rfl ?_
  unfold b_settle
  obtain ⟨J, hJ⟩ : ∃ J : Nat → Env → Hp → Prop, J = fun m' ρ' H' => ρ' "heap" = some (.obj .root) ∧ ρ' "tasks" = some (.obj (.loc N)) ∧ ∃ σ' ts', I m' σ' ts' ∧ Rep σ' H' ∧ LkX N H H' ∧ H' (.loc N) = some (.list (ts'.map Task.toV)) := ⟨_, rfl⟩
  refine s_while J m (by rw [hJ]; exact ⟨rfl, rfl, σ, ts, h, R, LkX.refl _ _, hN⟩) ?_
  intro m' ρ' H' hh
  rw [hJ] at hh
  obtain ⟨h1, h2, σ', ts', hI, R', L', hN'⟩ := hh
  by_cases he : ts' = []
  · subst he
    exact i_var h2 (t_f (truL hN') (s_nil (r_next (q m' σ' H' hI R' L'))))
  · obtain ⟨ts, t, rfl⟩ := list_end ts' he
    obtain ⟨F, hl, hl2, hG, m2, hm2, hI2⟩ := S m' σ' ts t hI
    have hN2 : H' (.loc N) = some (.list (ts.map Task.toV ++ [t.toV])) := by rw [hN']; simp
    refine i_var h2 (t_t (truS hN') ?_)
    refine s_assignTup (i_methL (i := .loc N) (fun _ p => i_var h2 p) hN' rfl (i_nil (l_pop hN2 ?_)))
    have R1 := R'.loc N (.list (ts.map Task.toV))
    have L1 : LkX N H' (H'.set (.loc N) (.list (ts.map Task.toV))) := LkX.set _ _ _
    have e1 : (H'.set (.loc N) (.list (ts.map Task.toV))) (.loc N) = some (.list (ts.map Task.toV)) := Hp.set_self _ _ _
    generalize H'.set (.loc N) (.list (ts.map Task.toV)) = H1 at R1 L1 e1 ⊢
    have fin : ∀ M H3, Rep (taskStep σ' t).1 H3 → Lk H1 H3 → H3 (.loc M) = some (.list ((taskStep σ' t).2.map Task.toV)) → ∀ ρ : Env, ρ "heap" = some (.obj .root) → ρ "tasks" = some (.obj (.loc N)) →
        methL .extend (.loc N) [.obj (.loc M)] (fun _ H' => wpSs (callP tab (k + 7)) [] ρ (seqQ (callP tab (k + 7)) [] (loopQ J m' (retQ Q))) H') H3 := by
      intro M H3 R3 L3 e3 ρ hρ1 hρ2
      refine l_ext (L3 N _ e1) e3 (by simp only [List.length_map]; unfold LIM; lia) (s_nil (s_seq (s_nil (lp_next m2 hm2 ?_))))
      rw [hJ]
      refine ⟨hρ1, hρ2, _, _, hI2, R3.loc _ _, ((L'.trans L1).trans L3.x).trans (LkX.set _ _ _), ?_⟩
      rw [Hp.set_self, List.map_append]
    cases t with
    | lose v =>
      obtain ⟨ρ1, hρ1⟩ : ∃ ρ1, ρ1 = (ρ'.upd "sort" (.str "lose")).upd "what" v.toV := ⟨_, rfl⟩
      refine ⟨_, ρ1, rfl, by rw [hρ1]; rfl, ?_⟩
      have v1 : ρ1 "heap" = some (.obj .root) := by rw [hρ1]; exact h1
      have v2 : ρ1 "tasks" = some (.obj (.loc N)) := by rw [hρ1]; exact h2
      have v3 : ρ1 "sort" = some (.str "lose") := by rw [hρ1]; rfl
      have v4 : ρ1 "what" = some v.toV := by rw [hρ1]; rfl
      clear hρ1
      refine s_if (i_cmp (i_var v3 (i_str (k_eqs (t := true) (by decide) (t_t rfl (s_expr (i_methL (i := .loc N) (fun _ p => i_var v2 p) e1 rfl ?_)))))))
      walk_at "mw"
      refine sp_lose (k := k + 3) R1 F fun M H3 R3 L3 hM e3 => i_nil ?_
      exact fin M H3 R3 L3 e3 ρ1 v1 v2
    | deed d =>
      obtain ⟨ρ1, hρ1⟩ : ∃ ρ1, ρ1 = (ρ'.upd "sort" (.str "deed")).upd "what" d.toV := ⟨_, rfl⟩
      refine ⟨_, ρ1, rfl, by rw [hρ1]; rfl, ?_⟩
      have v1 : ρ1 "heap" = some (.obj .root) := by rw [hρ1]; exact h1
      have v2 : ρ1 "tasks" = some (.obj (.loc N)) := by rw [hρ1]; exact h2
      have v3 : ρ1 "sort" = some (.str "deed") := by rw [hρ1]; rfl
      have v4 : ρ1 "what" = some (.tup [.str d.name, .tup d.args]) := by rw [hρ1]; rfl
      clear hρ1
      refine s_if (i_cmp (i_var v3 (i_str (k_eqs (t := false) (by decide) (t_f rfl (s_expr (i_methL (i := .loc N) (fun _ p => i_var v2 p) e1 rfl ?_)))))))
      refine i_cons (i_call (i_cons (i_call (i_cons (i_var v1 (i_cons (i_idx (i_var v4 (i_int ⟨_, idx0, i_cons (i_idx (i_var v4 (i_int ⟨_, idx1, i_nil ?_⟩)))⟩)))))))))
      refine sp_change (k := k) R1 (hG d rfl) (by lia) fun M H3 R3 L3 hM e3 => i_nil ?_
      refine sp_losing (k := k + 6) R3 e3 fun K H4 R4 L4 hK e4 => i_nil ?_
      exact fin K H4 R4 (L3.trans L4) e4 ρ1 v1 v2
theorem sp_do_deed {I : Nat → St → List Task → Prop} (S : Steps I) {m : Nat} {d : Deed} (R : Rep σ H) (h : I m σ [.deed d])
    (q : ∀ m' σ' H', I m' σ' [] → Rep σ' H' → Lk H H' → Q .none H') : callP tab (k + 9) "do_deed" [.obj .root, d.toV] Q H := by
  refine c_fn rfl rfl ?_
  unfold b_do_deed
  walk_at "mw"
  refine new_loc R _ fun N H1 R1 L1 hN e1 => ?_
  walk_at "mw"
  refine sp_settle S R1 (ts := [.deed d]) (by rw [e1, Hp.set_self]; rfl) h fun m' σ' H' hI R' L' => ?_
  exact s_nil (r_next (q m' σ' H' hI R' (LkX.back L1 hN L')))
end
end Mine
end
noncomputable section
namespace Mine
open PySem PySem.W PyProof.Rows
noncomputable def St.cc (σ : St) (c : Int → Int) (k : Int → String) : St := { σ with count := c, colour := k }
noncomputable def cellsOf (vs : List Val) : List Int := vs.filterMap fun v => match v with
  | .cell m => some m
  | .int _ => none
noncomputable def kids (σ : St) (n : Int) : List Int := cellsOf (hvals σ n)
noncomputable def objs (w : List Int) : List V := w.map fun m => V.obj (.cell m)
theorem objs_app (a b : List Int) : objs (a ++ b) = objs a ++ objs b := List.map_append
theorem objs_len (a : List Int) : (objs a).length = a.length := List.length_map _
noncomputable def isCellV : V → Bool
  | .tup (.str s :: _) => s == "cell"
  | _ => false
noncomputable def cellObj : V → V
  | .tup (_ :: .int m :: _) => .obj (.cell m)
  | v => v
theorem kids_V (l : List Val) : ((l.map Val.toV).filter isCellV).map cellObj = objs (cellsOf l) := by
  induction l with
  | nil => rfl
  | cons v r ih =>
    rw [List.map_cons, List.filter_cons]
    cases v with
    | int i =>
      have h1 : isCellV (Val.int i).toV = false := rfl
      rw [h1]; exact ih
    | cell m =>
      have h1 : isCellV (Val.cell m).toV = true := rfl
      rw [h1, if_pos rfl, List.map_cons, ih]; rfl
section
variable {σ : St} {H : Hp} {k b : Nat} {Q : V → Hp → Prop}
theorem cellsOf_mem {vs : List Val} {m : Int} : m ∈ cellsOf vs ↔ Val.cell m ∈ vs := by
  unfold cellsOf
  rw [List.mem_filterMap]
  constructor
  · rintro ⟨v, hv, e⟩
    cases v with
    | int _ => cases e
    | cell n => cases e; exact hv
  · intro h; exact ⟨_, h, rfl⟩
theorem kids_mem (C : Cl σ) {n m : Int} (hn : n ∈ σ.keys) (h : m ∈ kids σ n) : m ∈ σ.keys := by
  have := cellsOf_mem.mp h
  obtain ⟨p, hp, e⟩ := List.mem_map.mp this
  have h2 := C.slots n hn p hp
  rw [e] at h2; exact h2
theorem kids_len (W : Wf σ) {n : Int} (hn : n ∈ σ.keys) : (kids σ n).length ≤ 200 := by
  refine Nat.le_trans (List.length_filterMap_le _ _) ?_
  unfold hvals; rw [List.length_map]; exact W.nslots n hn
theorem Wf.cc (W : Wf σ) (c : Int → Int) (k : Int → String) : Wf (σ.cc c k) := ⟨W.last, W.nkeys, W.nlog, W.nvars, W.nbuf, W.nslots, W.ref, W.ndk, W.ndv, W.nds⟩
theorem sp_children {n : Int} (R : Rep σ H) (W : Wf σ) (hn : n ∈ σ.keys) (hk : ∀ m ∈ kids σ n, m ∈ σ.keys)
    (q : ∀ N H', Rep σ H' → Lk H H' → H (.loc N) = none → H' (.loc N) = some (.list (objs (kids σ n))) → Q (.obj (.loc N)) H') : callP tab (k + 2) "children" [.obj .root, .obj (.cell n)] Q H := by
  refine c_fn rfl rfl ?_
  unfold b_children
  walk_at "mw"
  refine sp_held_by R W hn fun N H1 R1 L1 hN e1 => ?_
  refine comp_pure isCellV cellObj (items := (hvals σ n).map Val.toV) (keep := some (.loc N)) ?_ ?_ ?_ ?_
  · exact srcL e1
  · intro it hit Q' q'
    obtain ⟨v, hv, rfl⟩ := List.mem_map.mp hit
    cases v with
    | int i => exact i_c (i_cmp (i_idx (i_var rfl (i_int ⟨_, idx0, i_str (k_eqs (t := false) (by decide) (t_f rfl q'))⟩))))
    | cell m => exact i_c (i_cmp (i_idx (i_var rfl (i_int ⟨_, idx0, i_str (k_eqs (t := true) (by decide) (t_t rfl (i_c0 q')))⟩))))
  · intro it hit h Q' q'
    obtain ⟨v, hv, rfl⟩ := List.mem_map.mp hit
    cases v with
    | int i => cases h
    | cell m =>
      have hmk : m ∈ σ.keys := hk m (cellsOf_mem.mpr hv)
      walk_at "mw"
      exact q'
  rw [kids_V]
  refine new_loc R1 _ fun M H2 R2 L2 hM e2 => r_ret (q M H2 R2 (L1.trans L2) (L1.none hM) ?_)
  rw [e2, Hp.set_self]; rfl
theorem Rep.cc_col {c : Int → Int} {kk : Int → String} (R : Rep (σ.cc c kk) H) (W : Wf σ) {n : Int} (hn : n ∈ σ.keys) (s : String) : putAttr H (.obj (.cell n)) "colour" (.str s) = some (H.set (.cell n) (cellO (σ.cc c (upd kk n s)) n)) ∧
    Rep (σ.cc c (upd kk n s)) (H.set (.cell n) (cellO (σ.cc c (upd kk n s)) n)) := by
  refine ⟨?_, R.recd hn (W.last n hn) rfl rfl rfl rfl rfl rfl rfl rfl rfl rfl rfl fun m h => by unfold cellO St.cc; dsimp only; rw [upd_ne _ _ h]⟩
  have e := upd_self kk n s
  unfold cellO St.cc; dsimp only; rw [e]; exact put_of (R.cell n hn) (Nat.le_of_ble_eq_true rfl)
theorem Rep.cc_cnt {c : Int → Int} {kk : Int → String} (R : Rep (σ.cc c kk) H) (W : Wf σ) {n : Int} (hn : n ∈ σ.keys) (d : Int) : putAttr H (.obj (.cell n)) "count" (.int (c n + d)) = some (H.set (.cell n) (cellO (σ.cc (upd c n (c n + d)) kk) n)) ∧
    Rep (σ.cc (upd c n (c n + d)) kk) (H.set (.cell n) (cellO (σ.cc (upd c n (c n + d)) kk) n)) := by
  refine ⟨?_, R.recd hn (W.last n hn) rfl rfl rfl rfl rfl rfl rfl rfl rfl rfl rfl fun m h => by unfold cellO St.cc; dsimp only; rw [upd_ne _ _ h]⟩
  have e := upd_self c n (c n + d)
  unfold cellO St.cc; dsimp only; rw [e]; exact put_of (R.cell n hn) (Nat.le_of_ble_eq_true rfl)
theorem Rep.cc_a {c : Int → Int} {kk : Int → String} (R : Rep (σ.cc c kk) H) {n : Int} (hn : n ∈ σ.keys) : attrOf H (.obj (.cell n)) "count" = some (.int (c n)) ∧ attrOf H (.obj (.cell n)) "colour" = some (.str (kk n)) ∧ attrOf H (.obj (.cell n)) "number" = some (.int n) :=
  ⟨R.c_count hn, R.c_colour hn, R.c_number hn⟩
noncomputable def addK (c : Int → Int) (l : List Int) (d : Int) : Int → Int := fun x => c x + d * (l.count x : Int)
theorem addK_nil (c : Int → Int) (d : Int) : addK c [] d = c := by funext x; simp [addK]
theorem addK_snoc (c : Int → Int) (l : List Int) (a d : Int) : addK c (l ++ [a]) d = upd (addK c l d) a (addK c l d a + d) := by
  funext x
  simp only [addK, upd, List.count_append]
  by_cases h : x = a
  · subst h; simp [Int.mul_add, Int.add_assoc]
  · have : List.count x [a] = 0 := List.count_eq_zero.mpr (by simp [h])
    simp [h, this]
theorem Rep.back {σ : St} {H : Hp} {N : Nat} {o : O} (R : Rep σ H) : Rep σ (H.set (.loc N) o) := R.loc N o
theorem kids_for {c : Int → Int} {kk : Int → String} {N M : Nat} {w l : List Int} {d : Int} {op : BOp} (hop : ∀ x (Q : V → Hp → Prop) H, Q (.int (x + d)) H → binW op (.int x) (.int 1) Q H)
    {K : Nat} {ρ : Env} {r : List LS} {QS : PostS} (hρ : ρ "waiting" = some (.obj (.loc N))) (hNM : N ≠ M) (R : Rep (σ.cc c kk) H) (W : Wf σ) (hN : H (.loc N) = some (.list (objs w))) (hM : H (.loc M) = some (.list (objs l))) (hl : ∀ m ∈ l, m ∈ σ.keys) (hlen : w.length + l.length ≤ 90000)
    (q : ∀ ρ' H', Rep (σ.cc (addK c l d) kk) H' → LkX N H H' → H' (.loc N) = some (.list (objs (w ++ l))) → (∀ x, x ≠ "child" → ρ' x = ρ x) → wpSs (callP tab K) r ρ' QS H') :
    ForI (callP tab K) ["child"] .plain [.augAttr (.var "child") "count" op (.int 1), .expr (.meth (.var "waiting") .append [(.var "child")])] r ρ QS (.obj (.loc M)) H := by
  obtain ⟨I, hI0⟩ : ∃ I : Nat → Env → Hp → Prop, I = fun j ρ' H' => (∀ x, x ≠ "child" → ρ' x = ρ x) ∧ Rep (σ.cc (addK c (l.take j) d) kk) H' ∧ LkX N H H' ∧ H' (.loc N) = some (.list (objs (w ++ l.take j))) := ⟨_, rfl⟩
  refine for_i (items := objs l) (keep := some (.loc M)) I (srcL hM) (by rw [hI0]; exact ⟨fun _ _ => rfl, by simpa [addK_nil] using R, LkX.refl _ _, by simpa using hN⟩) ?_ ?_ ?_
  · intro j ρ' H' h
    rw [hI0] at h
    obtain ⟨_, _, L, _⟩ := h
    show H' (.loc M) = H (.loc M)
    rw [hM]; exact L M _ (Ne.symm hNM) hM
  · intro j ρ' H' it hit h
    rw [hI0] at h
    obtain ⟨hx, R', L, e⟩ := h
    have hj : j < l.length := by
      have := (List.getElem?_eq_some_iff.mp hit).1; simpa [objs] using this
    have hit' : it = .obj (.cell l[j]) := by
      unfold objs at hit
      rw [List.getElem?_map, List.getElem?_eq_getElem hj] at hit
      simpa using hit.symm
    have hmk : l[j] ∈ σ.keys := hl _ (List.getElem_mem hj)
    have ht : l.take (j + 1) = l.take j ++ [l[j]] := by rw [List.take_add_one, List.getElem?_eq_getElem hj]; rfl
    have hjl : (l.take j).length ≤ l.length := by simp; lia
    have hnext : ∀ ρ5 H5, (∀ x, x ≠ "child" → ρ5 x = ρ x) → Rep (σ.cc (upd (addK c (l.take j) d) l[j] (addK c (l.take j) d l[j] + d)) kk) H5 → LkX N H H5 → H5 (.loc N) = some (.list (objs ((w ++ l.take j) ++ [l[j]]))) → I (j + 1) ρ5 H5 := fun ρ5 H5 x1 x2 x3 x4 => by
      rw [hI0]; dsimp only; rw [ht, addK_snoc, ← List.append_assoc]; exact ⟨x1, x2, x3, x4⟩
    generalize l[j] = a at hit' hmk hnext
    subst hit'
    refine ⟨_, rfl, ?_⟩
    obtain ⟨p1, R2⟩ := R'.cc_cnt W hmk d
    have hw : ρ' "waiting" = some (.obj (.loc N)) := (hx _ (by decide)).trans hρ
    refine s_aug (i_var rfl ⟨_, (R'.cc_a hmk).1, i_int ?_⟩)
    refine hop _ _ _ ⟨_, p1, ?_⟩
    have L2 : LkX N H' (H'.set (.cell a) (cellO (σ.cc (upd (addK c (l.take j) d) a (addK c (l.take j) d a + d)) kk) a)) := Lk.x (Lk.other (by intro k e; cases e) _)
    have e2 : (H'.set (.cell a) (cellO (σ.cc (upd (addK c (l.take j) d) a (addK c (l.take j) d a + d)) kk) a)) (.loc N) = some (.list (objs (w ++ l.take j))) := by rw [Hp.set_ne _ _ (by simp)]; exact e
    generalize H'.set (.cell a) (cellO (σ.cc (upd (addK c (l.take j) d) a (addK c (l.take j) d a + d)) kk) a) = H2 at R2 L2 e2 ⊢
    refine s_expr (i_methL (i := .loc N) (fun _ p => i_var hw p) e2 rfl (i_cons (i_var rfl (i_nil ?_))))
    refine l_app e2 (by rw [objs_len, List.length_append]; unfold LIM; lia) (s_nil (tn_next ?_))
    refine hnext _ _ (fun x hx2 => (Env.ne hx2).trans (hx x hx2)) (R2.loc _ _) ((L.trans L2).trans (LkX.set _ _ _)) ?_
    rw [Hp.set_self, objs_app (w ++ l.take j) [a]]; rfl
  · intro ρ' H' h
    rw [hI0] at h
    obtain ⟨hx, R', L, e⟩ := h
    have : (objs l).length = l.length := objs_len l
    rw [this, List.take_length] at R' e
    exact q ρ' H' R' L e hx
end
end Mine
end
noncomputable section
namespace Mine
open PySem PySem.W PyProof.Rows
noncomputable def MStep (σ : St) (I : Nat → (Int → Int) → (Int → String) → List Int → Prop) : Prop := ∀ m c k w n, I m c k (w ++ [n]) → n ∈ σ.keys ∧ w.length ≤ 50000 ∧
  (k n ≠ "grey" → ∃ m', m' < m ∧ I m' (addK c (kids σ n) (-1)) (upd k n "grey") (w ++ kids σ n)) ∧ (k n = "grey" → ∃ m', m' < m ∧ I m' c k w)
section
variable {σ : St} {H : Hp} {k b : Nat} {Q : V → Hp → Prop}
theorem pop_objs {N : Nat} {w : List Int} {n : Int} {P : V → Hp → Prop} (h : H (.loc N) = some (.list (objs (w ++ [n])))) (q : P (.obj (.cell n)) (H.set (.loc N) (.list (objs w)))) : methL .pop (.loc N) [] P H := by
  exact ⟨_, h, objs w, .obj (.cell n), rfl, List.map_append, q⟩
theorem truthy_snoc {N : Nat} {w : List Int} {n : Int} (h : H (.loc N) = some (.list (objs (w ++ [n])))) : truthyV H (.obj (.loc N)) = some true := by
  exact truS h
theorem sp_mark_grey {I : Nat → (Int → Int) → (Int → String) → List Int → Prop} (S : MStep σ I) (W : Wf σ) (C : Cl σ) {c : Int → Int} {kk : Int → String} {m : Nat} {n : Int} (hn : n ∈ σ.keys) (R : Rep (σ.cc c kk) H) (h : I m c kk [n])
    (q : ∀ m' c' k' H', I m' c' k' [] → Rep (σ.cc c' k') H' → Lk H H' → Q .none H') : callP tab (k + 3) "mark_grey" [.obj .root, .obj (.cell n)] Q H := by
  refine c_fn rfl rfl ?_
  unfold b_mark_grey
  walk_at "mw"
  refine new_loc R _ fun N H1 R1 L1 hN e1 => ?_
  have e1' : H1 (.loc N) = some (.list (objs [n])) := by rw [e1, Hp.set_self]; rfl
  clear e1
  obtain ⟨J, hJ⟩ : ∃ J : Nat → Env → Hp → Prop, J = fun m ρ' H' => ρ' "heap" = some (.obj .root) ∧ ρ' "waiting" = some (.obj (.loc N)) ∧ ∃ c' k' w, I m c' k' w ∧ Rep (σ.cc c' k') H' ∧ LkX N H1 H' ∧ H' (.loc N) = some (.list (objs w)) := ⟨_, rfl⟩
  refine s_while J m (by rw [hJ]; exact ⟨rfl, rfl, c, kk, [n], h, R1, LkX.refl _ _, e1'⟩) ?_
  intro m' ρ' H' hh
  rw [hJ] at hh
  obtain ⟨h1, h2, c', k', w, hI, R', L', hN'⟩ := hh
  by_cases he : w = []
  · subst he
    exact i_var h2 (t_f (truL hN') (s_nil (r_next (q m' c' k' H' hI R' (LkX.back L1 hN L')))))
  · obtain ⟨w, n, rfl⟩ := list_end w he
    obtain ⟨hnk, hwl, hs1, hs2⟩ := S m' c' k' w n hI
    refine i_var h2 (t_t (truthy_snoc hN') ?_)
    refine s_assign (i_methL (i := .loc N) (fun _ p => i_var h2 p) hN' rfl (i_nil (pop_objs hN' ?_)))
    have R2 := R'.loc N (.list (objs w))
    have L2 : LkX N H' (H'.set (.loc N) (.list (objs w))) := LkX.set _ _ _
    have e2 : (H'.set (.loc N) (.list (objs w))) (.loc N) = some (.list (objs w)) := Hp.set_self _ _ _
    generalize H'.set (.loc N) (.list (objs w)) = H2 at R2 L2 e2 ⊢
    obtain ⟨ρ1, hρ1⟩ : ∃ ρ1, ρ1 = ρ'.upd "here" (.obj (.cell n)) := ⟨_, rfl⟩
    rw [← hρ1]
    have v1 : ρ1 "heap" = some (.obj .root) := by rw [hρ1]; exact h1
    have v2 : ρ1 "waiting" = some (.obj (.loc N)) := by rw [hρ1]; exact h2
    have v3 : ρ1 "here" = some (.obj (.cell n)) := by rw [hρ1]; rfl
    clear hρ1
    refine s_if (i_cmp (i_attr (i_var v3 ⟨_, (R2.cc_a hnk).2.1, i_str ?_⟩)))
    by_cases hg : k' n = "grey"
    · obtain ⟨m2, hm2, hI2⟩ := hs2 hg
      rw [hg]
      refine k_nes (t := false) (by decide) (t_f rfl (s_nil (s_seq (s_nil (lp_next m2 hm2 ?_)))))
      rw [hJ]
      exact ⟨v1, v2, c', k', w, hI2, R2, L'.trans L2, e2⟩
    · obtain ⟨m2, hm2, hI2⟩ := hs1 hg
      obtain ⟨p3, R3⟩ := R2.cc_col W hnk "grey"
      have L3 : LkX N H2 (H2.set (.cell n) (cellO (σ.cc c' (upd k' n "grey")) n)) := Lk.x (Lk.other (by intro k e; cases e) _)
      have e3 : (H2.set (.cell n) (cellO (σ.cc c' (upd k' n "grey")) n)) (.loc N) = some (.list (objs w)) := by rw [Hp.set_ne _ _ (by simp)]; exact e2
      refine k_nes (t := true) (by simpa using hg) (t_t rfl (s_attr (i_str (i_var v3 ⟨_, p3, ?_⟩))))
      generalize H2.set (.cell n) (cellO (σ.cc c' (upd k' n "grey")) n) = H3 at R3 L3 e3 ⊢
      walk_at "mw"
      refine sp_children (σ := σ.cc c' (upd k' n "grey")) (k := k) R3 (W.cc _ _) hnk (fun m hm => kids_mem C hnk hm) fun M H4 R4 L4 hM e4 => ?_
      have hNM : N ≠ M := fun e => by subst e; rw [e3] at hM; cases hM
      have hk200 := kids_len W hnk
      refine kids_for (σ := σ) (w := w) (l := kids σ n) (d := -1) (op := .sub) (K := k + 2) (fun x Q H q => b_subi q) v2 hNM R4 W (L4 N _ e3) e4 (fun m hm => kids_mem C hnk hm) (by lia) ?_
      intro ρ5 H5 R5 L5 e5 hρ5
      refine s_nil (s_seq (s_nil (lp_next m2 hm2 ?_)))
      rw [hJ]
      refine ⟨?_, ?_, _, _, _, hI2, R5, ((L'.trans L2).trans L3).trans (L4.x.trans L5), e5⟩
      · rw [hρ5 _ (by decide)]; exact v1
      · rw [hρ5 _ (by decide)]; exact v2
end
end Mine
end
noncomputable section
namespace Mine
noncomputable def sumL (l : List Int) (f : Int → Int) : Int := (l.map f).sum
theorem sumL_nil (f : Int → Int) : sumL [] f = 0 := rfl
theorem sumL_cons (a : Int) (l : List Int) (f : Int → Int) : sumL (a :: l) f = f a + sumL l f := by simp [sumL]
theorem sumL_app (a b : List Int) (f : Int → Int) : sumL (a ++ b) f = sumL a f + sumL b f := by
  induction a with
  | nil => simp [sumL]
  | cons x r ih => rw [List.cons_append, sumL_cons, sumL_cons, ih]; lia
theorem sumL_congr {l : List Int} {f g : Int → Int} (h : ∀ x ∈ l, f x = g x) : sumL l f = sumL l g := by
  unfold sumL; rw [List.map_congr_left h]
theorem sumL_one {l : List Int} {f g : Int → Int} {n : Int} (hd : l.Nodup) (hn : n ∈ l) (h : ∀ x ∈ l, x ≠ n → f x = g x) : sumL l f = sumL l g + (f n - g n) := by
  induction l with
  | nil => cases hn
  | cons a r ih =>
    rw [List.nodup_cons] at hd
    rw [sumL_cons, sumL_cons]
    by_cases e : a = n
    · subst e
      have := sumL_congr (l := r) (f := f) (g := g) fun x hx => h x (List.mem_cons_of_mem _ hx) fun q => hd.1 (q ▸ hx)
      lia
    · have hr : n ∈ r := by
        rcases List.mem_cons.mp hn with q | q
        · exact absurd q.symm e
        · exact q
      have h1 := ih hd.2 hr fun x hx => h x (List.mem_cons_of_mem _ hx)
      have h2 := h a (List.mem_cons_self ..) e
      lia
theorem sumL_nonneg {l : List Int} {f : Int → Int} (h : ∀ x ∈ l, 0 ≤ f x) : 0 ≤ sumL l f := by
  induction l with
  | nil => simp [sumL]
  | cons a r ih =>
    rw [sumL_cons]
    have := h a (List.mem_cons_self ..)
    have := ih fun x hx => h x (List.mem_cons_of_mem _ hx)
    lia
theorem sumL_le {l : List Int} {f g : Int → Int} (h : ∀ x ∈ l, f x ≤ g x) : sumL l f ≤ sumL l g := by
  induction l with
  | nil => simp [sumL]
  | cons a r ih =>
    rw [sumL_cons, sumL_cons]
    have := h a (List.mem_cons_self ..)
    have := ih fun x hx => h x (List.mem_cons_of_mem _ hx)
    lia
theorem sumL_zero (l : List Int) : sumL l (fun _ => 0) = 0 := by
  induction l with
  | nil => rfl
  | cons a r ih => rw [sumL_cons, ih]; rfl
theorem sumL_pos {l : List Int} {f : Int → Int} (h : 0 < sumL l f) : ∃ x ∈ l, 0 < f x := by
  refine Classical.byContradiction fun q => ?_
  have : sumL l f ≤ sumL l (fun _ => 0) := sumL_le fun x hx => Int.not_lt.mp fun z => q ⟨x, hx, z⟩
  rw [sumL_zero] at this
  lia
theorem sumL_sub (l : List Int) (f g : Int → Int) : sumL l f - sumL l g = sumL l (fun x => f x - g x) := by
  induction l with
  | nil => rfl
  | cons a r ih => rw [sumL_cons, sumL_cons, sumL_cons, ← ih]; lia
theorem sumL_mem_le {l : List Int} {f : Int → Int} (h : ∀ x ∈ l, 0 ≤ f x) {n : Int} (hn : n ∈ l) : f n ≤ sumL l f := by
  induction l with
  | nil => cases hn
  | cons a r ih =>
    rw [sumL_cons]
    have h1 := h a (List.mem_cons_self ..)
    have h2 := sumL_nonneg fun x hx => h x (List.mem_cons_of_mem _ hx)
    rcases List.mem_cons.mp hn with e | e
    · subst e; lia
    · have := ih (fun x hx => h x (List.mem_cons_of_mem _ hx)) e; lia
theorem sumL_filter {l : List Int} {f : Int → Int} {n : Int} (hd : l.Nodup) (hn : n ∈ l) : sumL (l.filter fun m => decide (m ≠ n)) f = sumL l f - f n := by
  induction l with
  | nil => cases hn
  | cons a r ih =>
    rw [List.nodup_cons] at hd
    rw [sumL_cons, List.filter_cons]
    by_cases e : a = n
    · subst e
      have : r.filter (fun m => decide (m ≠ a)) = r := List.filter_eq_self.mpr fun x hx => by simp; exact fun q => hd.1 (q ▸ hx)
      simp only [ne_eq, not_true_eq_false, decide_false, Bool.false_eq_true, if_false]
      simp only [ne_eq] at this
      rw [this]; lia
    · have hr : n ∈ r := by
        rcases List.mem_cons.mp hn with q | q
        · exact absurd q.symm e
        · exact q
      have h1 := ih hd.2 hr
      simp only [ne_eq, e, not_false_eq_true, decide_true, if_true]
      simp only [ne_eq] at h1
      rw [sumL_cons, h1]; lia
theorem sumL_filter_p {l : List Int} {f : Int → Int} (p : Int → Bool) : sumL (l.filter p) f = sumL l (fun x => if p x then f x else 0) := by
  induction l with
  | nil => rfl
  | cons a r ih =>
    rw [sumL_cons, List.filter_cons]
    split
    · rw [sumL_cons, ih]
    · rw [ih]; lia
noncomputable def kc (σ : St) (m x : Int) : Int := ((kids σ m).count x : Int)
noncomputable def vcells (σ : St) : List Int := cellsOf (σ.vars.map (·.2))
noncomputable def refs (σ : St) (x : Int) : Int := ((vcells σ).count x : Int) + sumL σ.keys (fun m => kc σ m x)
noncomputable def pc (P : List Val) (x : Int) : Int := ((cellsOf P).count x : Int)
noncomputable def Bal (σ : St) (P : List Val) : Prop := ∀ n ∈ σ.keys, σ.count n = refs σ n + pc P n
theorem kc_nn (σ : St) (m x : Int) : 0 ≤ kc σ m x := Int.natCast_nonneg _
theorem kc_pos {σ : St} {m x : Int} : 0 < kc σ m x ↔ x ∈ kids σ m := by
  unfold kc
  rw [← List.count_pos_iff]; lia
theorem kc_zero {σ : St} {m x : Int} (h : x ∉ kids σ m) : kc σ m x = 0 := by
  unfold kc; rw [List.count_eq_zero.mpr h]; rfl
theorem pc_nn (P : List Val) (x : Int) : 0 ≤ pc P x := Int.natCast_nonneg _
theorem pc_nil (x : Int) : pc [] x = 0 := rfl
theorem cellsOf_app (a b : List Val) : cellsOf (a ++ b) = cellsOf a ++ cellsOf b := List.filterMap_append
theorem pc_app (a b : List Val) (x : Int) : pc (a ++ b) x = pc a x + pc b x := by
  unfold pc; rw [cellsOf_app, List.count_append]; lia
theorem pc_cons (v : Val) (b : List Val) (x : Int) : pc (v :: b) x = pc [v] x + pc b x := pc_app [v] b x
theorem pc_cell (n x : Int) : pc [.cell n] x = if x = n then 1 else 0 := by
  have e : cellsOf [.cell n] = [n] := rfl
  unfold pc; rw [e]
  by_cases h : x = n
  · subst h; simp
  · rw [if_neg h, List.count_eq_zero.mpr (by simpa using h)]; rfl
theorem pc_int (i x : Int) : pc [.int i] x = 0 := rfl
theorem pc_rev (a : List Val) (x : Int) : pc a.reverse x = pc a x := by
  unfold pc cellsOf; rw [List.filterMap_reverse, List.count_reverse]
theorem pc_zero {P : List Val} {x : Int} (h : Val.cell x ∉ P) : pc P x = 0 := by
  unfold pc; rw [List.count_eq_zero.mpr fun q => h (cellsOf_mem.mp q)]; rfl
theorem pc_pos {P : List Val} {x : Int} : 0 < pc P x ↔ Val.cell x ∈ P := by
  rw [← cellsOf_mem, ← List.count_pos_iff]; unfold pc; lia
theorem Bal.congr {σ : St} {P P' : List Val} (b : Bal σ P) (h : ∀ x, pc P' x = pc P x) : Bal σ P' := fun n hn => by rw [b n hn, h]
inductive Rch (σ : St) (R : Int → Prop) : Int → Prop
  | root {n : Int} (h : R n) : Rch σ R n
  | step {m n : Int} (h : Rch σ R m) (hm : m ∈ σ.keys) (hk : n ∈ kids σ m) : Rch σ R n
theorem Rch.mono {σ σ' : St} {R R' : Int → Prop} (h1 : ∀ n, R n → Rch σ' R' n) (h2 : ∀ m n, m ∈ σ.keys → n ∈ kids σ m → Rch σ' R' m → Rch σ' R' n) {n : Int} (h : Rch σ R n) : Rch σ' R' n := by
  induction h with
  | root h => exact h1 _ h
  | step h hm hk ih => exact h2 _ _ hm hk ih
noncomputable def vr (σ : St) (x : Int) : Prop := x ∈ vcells σ
noncomputable def Live (σ : St) : Int → Prop := Rch σ (vr σ)
noncomputable def RootF (σ : St) (P : List Val) (X : List Int) (x : Int) : Prop := vr σ x ∨ Val.cell x ∈ P ∨ x ∈ σ.buffer ∨ x ∈ X
noncomputable def Full (σ : St) (P : List Val) (X : List Int) : Prop := ∀ n ∈ σ.keys, Rch σ (RootF σ P X) n
theorem vr_ok {σ : St} (C : Cl σ) {x : Int} (h : vr σ x) : x ∈ σ.keys := by
  obtain ⟨p, hp, e⟩ := List.mem_map.mp (cellsOf_mem.mp h)
  have := C.vars p hp
  rw [e] at this; exact this
theorem Live.key {σ : St} (C : Cl σ) {x : Int} (h : Live σ x) : x ∈ σ.keys := by
  cases h with
  | root h => exact vr_ok C h
  | step h hm hk => exact kids_mem C hm hk
theorem refs_nn (σ : St) (x : Int) : 0 ≤ refs σ x := by
  have h1 := sumL_nonneg (l := σ.keys) (f := fun m => kc σ m x) fun m _ => kc_nn σ m x
  unfold refs; lia
theorem held_of {σ : St} {x : Int} (h : 0 < refs σ x) : vr σ x ∨ ∃ m ∈ σ.keys, x ∈ kids σ m := by
  by_cases q : vr σ x
  · exact .inl q
  · right
    have e : (vcells σ).count x = 0 := List.count_eq_zero.mpr q
    unfold refs at h; rw [e] at h
    obtain ⟨m, hm, hk⟩ := sumL_pos (l := σ.keys) (f := fun m => kc σ m x) (by lia)
    exact ⟨m, hm, kc_pos.mp hk⟩
theorem refs_pos_var {σ : St} {x : Int} (h : vr σ x) : 0 < refs σ x := by
  have h1 := sumL_nonneg (l := σ.keys) (f := fun m => kc σ m x) fun m _ => kc_nn σ m x
  have : 0 < (vcells σ).count x := List.count_pos_iff.mpr h
  unfold refs; lia
theorem refs_pos_kid {σ : St} {m x : Int} (hm : m ∈ σ.keys) (h : x ∈ kids σ m) : 0 < refs σ x := by
  have h1 := sumL_mem_le (l := σ.keys) (f := fun m => kc σ m x) (fun m _ => kc_nn σ m x) hm
  have h2 := kc_pos.mpr h
  unfold refs; lia
structure Shape (σ σ' : St) : Prop where
  keys : σ'.keys = σ.keys
  slots : σ'.slots = σ.slots
  vars : σ'.vars = σ.vars
theorem Shape.refl (σ : St) : Shape σ σ := ⟨rfl, rfl, rfl⟩
theorem Shape.trans {a b c : St} (x : Shape a b) (y : Shape b c) : Shape a c := ⟨y.keys.trans x.keys, y.slots.trans x.slots, y.vars.trans x.vars⟩
theorem Shape.kids {σ σ' : St} (s : Shape σ σ') (n : Int) : Mine.kids σ' n = Mine.kids σ n := by unfold Mine.kids hvals; rw [s.slots]
theorem Shape.kc {σ σ' : St} (s : Shape σ σ') (n x : Int) : Mine.kc σ' n x = Mine.kc σ n x := by unfold Mine.kc; rw [s.kids]
theorem Shape.vr {σ σ' : St} (s : Shape σ σ') : Mine.vr σ' = Mine.vr σ := by funext x; unfold Mine.vr vcells; rw [s.vars]
theorem Shape.refs {σ σ' : St} (s : Shape σ σ') (x : Int) : Mine.refs σ' x = Mine.refs σ x := by
  unfold Mine.refs vcells; rw [s.vars, s.keys]; congr 1; exact sumL_congr fun m _ => s.kc m x
theorem Shape.rch {σ σ' : St} (s : Shape σ σ') {R : Int → Prop} {n : Int} (h : Rch σ R n) : Rch σ' R n :=
  h.mono (fun n h => .root h) fun m n hm hk h => .step h (s.keys ▸ hm) (by rw [s.kids]; exact hk)
theorem Shape.symm {σ σ' : St} (s : Shape σ σ') : Shape σ' σ := ⟨s.keys.symm, s.slots.symm, s.vars.symm⟩
theorem Shape.live {σ σ' : St} (s : Shape σ σ') : Live σ' = Live σ := by
  funext n; refine propext ⟨fun h => ?_, fun h => ?_⟩
  · have := s.symm.rch h; rw [s.vr] at this; exact this
  · have := s.rch h; unfold Live at *; rw [s.vr]; exact this
structure BufOk (σ : St) : Prop where
  mem : ∀ n ∈ σ.keys, σ.buffered n = decide (n ∈ σ.buffer)
  nd : σ.buffer.Nodup
  sub : ∀ n ∈ σ.buffer, n ∈ σ.keys
  col : ∀ n ∈ σ.keys, σ.colour n = if n ∈ σ.buffer then "purple" else "black"
noncomputable def frees (l : List LogE) : List Int := l.filterMap fun e => match e with
  | .free n => some n
  | _ => none
theorem frees_app (a b : List LogE) : frees (a ++ b) = frees a ++ frees b := List.filterMap_append
structure LogOk (σ : St) : Prop where
  nd : (frees σ.log).Nodup
  old : ∀ n ∈ frees σ.log, n ∉ σ.keys ∧ n ≤ σ.last
  freed : σ.freed = (frees σ.log).length
  len : (σ.log.length : Int) + sumL σ.keys (fun n => if σ.isD n then 1 else 2) ≤ 3 * σ.last
structure J (σ : St) (P : List Val) (X : List Int) : Prop where
  bal : Bal σ P
  full : Full σ P X
  pok : ∀ v ∈ P, okV σ v
  buf : BufOk σ
  pos : (∀ n ∈ σ.keys, 1 ≤ n) ∧ 0 ≤ σ.last
  lg : LogOk σ
  obj : ∀ n ∈ σ.keys, σ.hasD n = true → σ.sort n = "object"
end Mine
end
noncomputable section
namespace Mine
theorem addK_addK (c : Int → Int) (a b : List Int) (d : Int) : addK (addK c a d) b d = addK c (a ++ b) d := by
  funext x; simp only [addK, List.count_append]; simp [Int.mul_add, Int.add_assoc]
noncomputable def dg (σ : St) (p : Int → Prop) [DecidablePred p] (x : Int) : Int := sumL σ.keys fun g => if p g then kc σ g x else 0
theorem dg_congr {σ : St} {p q : Int → Prop} [DecidablePred p] [DecidablePred q] (h : ∀ n ∈ σ.keys, (p n ↔ q n)) (x : Int) : dg σ p x = dg σ q x :=
  sumL_congr fun n hn => by
    by_cases e : p n
    · rw [if_pos e, if_pos ((h n hn).mp e)]
    · rw [if_neg e, if_neg fun z => e ((h n hn).mpr z)]
theorem dg_one {σ : St} {p q : Int → Prop} [DecidablePred p] [DecidablePred q] (hd : σ.keys.Nodup) {n : Int} (hn : n ∈ σ.keys) (hp : p n) (hq : ¬ q n) (h : ∀ m ∈ σ.keys, m ≠ n → (p m ↔ q m)) (x : Int) : dg σ p x = dg σ q x + kc σ n x := by
  have := sumL_one (f := fun g => if p g then kc σ g x else 0) (g := fun g => if q g then kc σ g x else 0) hd hn fun m hm e => by
    by_cases z : p m
    · rw [if_pos z, if_pos ((h m hm e).mp z)]
    · rw [if_neg z, if_neg fun y => z ((h m hm e).mpr y)]
  unfold dg
  rw [this, if_pos hp, if_neg hq]; lia
noncomputable def wk (σ : St) (p : Int → Prop) [DecidablePred p] : Int := sumL σ.keys fun g => if p g then ((kids σ g).length : Int) + 1 else 0
theorem wk_nn (σ : St) (p : Int → Prop) [DecidablePred p] : 0 ≤ wk σ p := sumL_nonneg fun n _ => by split <;> lia
theorem wk_le {σ : St} {p q : Int → Prop} [DecidablePred p] [DecidablePred q] (h : ∀ n ∈ σ.keys, p n → q n) : wk σ p ≤ wk σ q :=
  sumL_le fun n hn => by
    by_cases e : p n
    · rw [if_pos e, if_pos (h n hn e)]; lia
    · rw [if_neg e]; split <;> lia
theorem wk_one {σ : St} {p q : Int → Prop} [DecidablePred p] [DecidablePred q] (hd : σ.keys.Nodup) {n : Int} (hn : n ∈ σ.keys) (hp : p n) (hq : ¬ q n) (h : ∀ m ∈ σ.keys, m ≠ n → (p m ↔ q m)) : wk σ p = wk σ q + ((kids σ n).length + 1) := by
  have := sumL_one (f := fun g => if p g then ((kids σ g).length : Int) + 1 else 0) (g := fun g => if q g then ((kids σ g).length : Int) + 1 else 0) hd hn fun m hm e => by
    by_cases z : p m
    · rw [if_pos z, if_pos ((h m hm e).mp z)]
    · rw [if_neg z, if_neg fun y => z ((h m hm e).mpr y)]
  unfold wk
  rw [this, if_pos hp, if_neg hq]; lia
theorem sumL_const_le {l : List Int} {f : Int → Int} {b : Int} (h : ∀ x ∈ l, f x ≤ b) : sumL l f ≤ b * l.length := by
  induction l with
  | nil => simp [sumL]
  | cons a r ih =>
    rw [sumL_cons, List.length_cons]
    have h1 := h a (List.mem_cons_self ..)
    have h2 := ih fun x hx => h x (List.mem_cons_of_mem _ hx)
    have : b * ((r.length + 1 : Nat) : Int) = b * r.length + b := by rw [Int.natCast_add, Int.mul_add]; simp
    lia
theorem wk_bound {σ : St} (W : Wf σ) (p : Int → Prop) [DecidablePred p] : wk σ p ≤ 40200 := by
  have h1 : wk σ p ≤ 201 * (σ.keys.length : Int) := sumL_const_le fun n hn => by
    have := kids_len W hn
    split <;> lia
  have := W.nkeys
  lia
section
variable {σ : St}
structure MI (σ : St) (S D : List Int) (c : Int → Int) (k : Int → String) (w : List Int) : Prop where
  col : ∀ n ∈ σ.keys, k n ≠ "grey" → k n = σ.colour n
  sub : ∀ n ∈ σ.keys, k n = "grey" → Rch σ (· ∈ S) n
  wsub : ∀ n ∈ w, n ∈ σ.keys ∧ Rch σ (· ∈ S) n
  cnt : ∀ x, c x = σ.count x - dg σ (fun g => k g = "grey") x
  kid : ∀ n ∈ σ.keys, k n = "grey" → ∀ x ∈ kids σ n, k x = "grey" ∨ x ∈ w
  done : ∀ s ∈ D, k s = "grey" ∨ s ∈ w
theorem MI.step (W : Wf σ) (C : Cl σ) {S D : List Int} {c : Int → Int} {k : Int → String} {w : List Int} {n : Int} (h : MI σ S D c k (w ++ [n])) :
    (k n ≠ "grey" → MI σ S D (addK c (kids σ n) (-1)) (upd k n "grey") (w ++ kids σ n)) ∧ (k n = "grey" → MI σ S D c k w) := by
  obtain ⟨hn, hr⟩ := h.wsub n (by simp)
  refine ⟨fun hg => ⟨fun m hk hm => ?_, fun m hk hm => ?_, fun m hm => ?_, fun x => ?_, fun m hk hm x hx => ?_, fun s hs => ?_⟩, fun hg => ⟨h.col, h.sub, fun m hm => h.wsub m (by simp [hm]), h.cnt, fun m hk hm x hx => ?_, fun s hs => ?_⟩⟩
  · by_cases e : m = n
    · subst e; rw [upd_self] at hm; exact absurd rfl hm
    · rw [upd_ne _ _ e] at hm ⊢; exact h.col m hk hm
  · by_cases e : m = n
    · subst e; exact hr
    · rw [upd_ne _ _ e] at hm; exact h.sub m hk hm
  · rcases List.mem_append.mp hm with q | q
    · exact h.wsub m (by simp [q])
    · exact ⟨kids_mem C hn q, .step hr hn q⟩
  · have e1 := dg_one (σ := σ) (p := fun g => upd k n "grey" g = "grey") (q := fun g => k g = "grey") W.ndk hn (upd_self ..) hg (fun m hm e => by show upd k n "grey" m = _ ↔ _; rw [upd_ne _ _ e]) x
    have e2 := h.cnt x
    have e3 : addK c (kids σ n) (-1) x = c x - kc σ n x := by unfold addK kc; lia
    lia
  · by_cases ex : x = n
    · subst ex; left; exact upd_self ..
    · rw [upd_ne _ _ ex]
      by_cases e : m = n
      · subst e; right; exact List.mem_append_right _ hx
      · rw [upd_ne _ _ e] at hm
        rcases h.kid m hk hm x hx with q | q
        · exact .inl q
        · right
          rcases List.mem_append.mp q with q | q
          · exact List.mem_append_left _ q
          · exact absurd (List.mem_singleton.mp q) ex
  · by_cases e : s = n
    · subst e; left; exact upd_self ..
    · rw [upd_ne _ _ e]
      rcases h.done s hs with q | q
      · exact .inl q
      · right
        rcases List.mem_append.mp q with q | q
        · exact List.mem_append_left _ q
        · exact absurd (List.mem_singleton.mp q) e
  · rcases h.kid m hk hm x hx with q | q
    · exact .inl q
    · rcases List.mem_append.mp q with q | q
      · exact .inr q
      · rw [List.mem_singleton.mp q]; exact .inl hg
  · rcases h.done s hs with q | q
    · exact .inl q
    · rcases List.mem_append.mp q with q | q
      · exact .inr q
      · rw [List.mem_singleton.mp q]; exact .inl hg
noncomputable def MIm (σ : St) (S D : List Int) (m : Nat) (c : Int → Int) (k : Int → String) (w : List Int) : Prop := MI σ S D c k w ∧ (m : Int) = wk σ (fun g => k g ≠ "grey") + w.length ∧ m ≤ 45000
theorem MIm.mstep (W : Wf σ) (C : Cl σ) (S D : List Int) : MStep σ (MIm σ S D) := by
  rintro m c k w n ⟨h, hm, hb⟩
  obtain ⟨hn, hr⟩ := h.wsub n (by simp)
  have nn := wk_nn σ (fun g => k g ≠ "grey")
  rw [List.length_append, List.length_singleton] at hm
  refine ⟨hn, by lia, fun hg => ?_, fun hg => ?_⟩
  · have e := wk_one (σ := σ) (p := fun g => k g ≠ "grey") (q := fun g => upd k n "grey" g ≠ "grey") W.ndk hn hg (by simp [upd_self]) (fun m hm e => by show _ ↔ upd k n "grey" m ≠ _; rw [upd_ne _ _ e])
    have nn2 := wk_nn σ (fun g => upd k n "grey" g ≠ "grey")
    obtain ⟨m', e'⟩ : ∃ m' : Nat, (m' : Int) = wk σ (fun g => upd k n "grey" g ≠ "grey") + (w ++ kids σ n).length := ⟨(wk σ (fun g => upd k n "grey" g ≠ "grey") + (w ++ kids σ n).length).toNat, by lia⟩
    rw [List.length_append] at e'
    exact ⟨m', by lia, (h.step W C).1 hg, by rw [List.length_append]; lia, by lia⟩
  · exact ⟨m - 1, by lia, (h.step W C).2 hg, by lia, by lia⟩
theorem MIm.start (W : Wf σ) {S D : List Int} {c : Int → Int} {k : Int → String} {n : Int} (h : MI σ S D c k []) (hn : n ∈ σ.keys) (hs : n ∈ S) : ∃ m, MIm σ S (D ++ [n]) m c k [n] := by
  have nn := wk_nn σ (fun g => k g ≠ "grey")
  have bb := wk_bound W (fun g => k g ≠ "grey")
  refine ⟨(wk σ (fun g => k g ≠ "grey") + 1).toNat, ⟨h.col, h.sub, fun x hx => ?_, h.cnt, fun m hk hm x hx => ?_, fun s hs => ?_⟩, by simp only [List.length_singleton]; lia, by lia⟩
  · rw [List.mem_singleton.mp hx]; exact ⟨hn, .root hs⟩
  · rcases h.kid m hk hm x hx with q | q
    · exact .inl q
    · cases q
  · rcases List.mem_append.mp hs with q | q
    · rcases h.done s q with z | z
      · exact .inl z
      · cases z
    · exact .inr q
theorem MI.zero {S : List Int} (hg : ∀ n ∈ σ.keys, σ.colour n ≠ "grey") : MI σ S [] σ.count σ.colour [] := by
  refine ⟨fun _ _ _ => rfl, fun n hn h => absurd h (hg n hn), fun n h => (by cases h), fun x => ?_, fun n hn h => absurd h (hg n hn), fun s h => (by cases h)⟩
  have : dg σ (fun g => σ.colour g = "grey") x = sumL σ.keys fun _ => 0 := sumL_congr fun n hn => if_neg (hg n hn)
  rw [this, sumL_zero]; lia
theorem MI.end (C : Cl σ) {S : List Int} (hS : ∀ x ∈ S, x ∈ σ.keys) {c : Int → Int} {k : Int → String} (h : MI σ S S c k []) (n : Int) : (n ∈ σ.keys ∧ k n = "grey") ↔ Rch σ (· ∈ S) n := by
  refine ⟨fun e => h.sub n e.1 e.2, fun e => ?_⟩
  induction e with
  | root hs =>
    rcases h.done _ hs with q | q
    · exact ⟨hS _ hs, q⟩
    · cases q
  | step _ hm hk ih =>
    rcases h.kid _ hm ih.2 _ hk with q | q
    · exact ⟨kids_mem C hm hk, q⟩
    · cases q
end
end Mine
end
noncomputable section
namespace Mine
noncomputable abbrev CKW := (Int → Int) × (Int → String) × List Int
noncomputable def sbStep (s : CKW) (a : Int) : CKW := (upd s.1 a (s.1 a + 1), upd s.2.1 a "black", if s.2.1 a = "black" then s.2.2 else s.2.2 ++ [a])
theorem sb_facts (l : List Int) : ∀ (c : Int → Int) (k : Int → String) (w : List Int), (l.foldl sbStep (c, k, w)).1 = addK c l 1 ∧ (∀ x, (l.foldl sbStep (c, k, w)).2.1 x = if x ∈ l then "black" else k x) ∧
    ∃ new, (l.foldl sbStep (c, k, w)).2.2 = w ++ new ∧ new.Nodup ∧ ∀ x, x ∈ new ↔ x ∈ l ∧ k x ≠ "black" := by
  induction l with
  | nil => intro c k w; exact ⟨(addK_nil c 1).symm, fun x => by simp, [], by simp, List.nodup_nil, fun x => by simp⟩
  | cons a r ih =>
    intro c k w
    rw [List.foldl_cons]
    obtain ⟨h1, h2, new, h3, h4, h5⟩ := ih (upd c a (c a + 1)) (upd k a "black") (if k a = "black" then w else w ++ [a])
    refine ⟨?_, fun x => ?_, ?_⟩
    · refine h1.trans ?_
      have : upd c a (c a + 1) = addK c [a] 1 := by
        have := addK_snoc c [] a 1
        rw [addK_nil] at this; exact this.symm
      rw [this, addK_addK]; rfl
    · refine (h2 x).trans ?_
      by_cases e : x = a
      · subst e; simp [upd_self]
      · simp [e, upd_ne _ _ e]
    · by_cases e : k a = "black"
      · refine ⟨new, ?_, h4, fun x => (h5 x).trans ?_⟩
        · refine Eq.trans h3 ?_; rw [if_pos e]
        · by_cases z : x = a
          · subst z; simp [upd_self, e]
          · simp [z, upd_ne _ _ z]
      · refine ⟨a :: new, ?_, List.nodup_cons.mpr ⟨fun q => ?_, h4⟩, fun x => ?_⟩
        · refine Eq.trans h3 ?_; rw [if_neg e, List.append_assoc]; rfl
        · exact ((h5 a).mp q).2 (upd_self ..)
        · rw [List.mem_cons, h5]
          by_cases z : x = a
          · subst z; simp [e]
          · simp [z, upd_ne _ _ z]
section
variable {σ : St}
noncomputable def ext (σ : St) (G : Int → Bool) (x : Int) : Int := σ.count x - dg σ (fun g => G g = true) x
structure GOk (σ : St) (G : Int → Bool) : Prop where
  W : Wf σ
  C : Cl σ
  bal : Bal σ []
  mem : ∀ n, G n = true → n ∈ σ.keys
  clo : ∀ n, G n = true → ∀ x ∈ kids σ n, G x = true
  cov : ∀ n ∈ σ.keys, G n = true ∨ Live σ n
theorem GOk.live {G : Int → Bool} (g : GOk σ G) {x : Int} (hx : x ∈ σ.keys) (h : 0 < ext σ G x) : Live σ x := by
  have hb := g.bal x hx
  rw [pc_nil] at hb
  unfold ext at h
  by_cases q : vr σ x
  · exact .root q
  have e : (vcells σ).count x = 0 := List.count_eq_zero.mpr q
  unfold refs at hb; rw [e] at hb
  unfold dg at h
  dsimp only at h
  have h2 : 0 < sumL σ.keys (fun m => kc σ m x - (if G m = true then kc σ m x else 0)) := by rw [← sumL_sub]; lia
  obtain ⟨m, hm, hp⟩ := sumL_pos h2
  by_cases z : G m = true
  · simp [z] at hp
  · simp only [z, if_false] at hp
    have hk : x ∈ kids σ m := kc_pos.mp (by simpa using hp)
    rcases g.cov m hm with y | y
    · exact absurd y z
    · exact .step y hm hk
theorem GOk.ext_pos {G : Int → Bool} (g : GOk σ G) {x : Int} (hx : x ∈ σ.keys) (h : vr σ x ∨ ∃ m ∈ σ.keys, G m = false ∧ x ∈ kids σ m) : 0 < ext σ G x := by
  have hb := g.bal x hx
  rw [pc_nil] at hb
  unfold ext dg
  dsimp only
  unfold refs at hb
  have h3 := sumL_sub σ.keys (fun m => kc σ m x) (fun m => if G m = true then kc σ m x else 0)
  have nn : ∀ m ∈ σ.keys, 0 ≤ kc σ m x - (if G m = true then kc σ m x else 0) := fun m _ => by have := kc_nn σ m x; split <;> lia
  have h4 := sumL_nonneg nn
  rcases h with h | ⟨m, hm, hG, hk⟩
  · have : 0 < (vcells σ).count x := List.count_pos_iff.mpr h
    lia
  · have h5 := sumL_mem_le nn hm
    have := kc_pos.mpr hk
    simp [hG] at h5
    lia
structure SB (σ : St) (G : Int → Bool) (D w : List Int) (c : Int → Int) (k : Int → String) (wb : List Int) : Prop where
  col : ∀ n ∈ σ.keys, k n = "grey" ∨ k n = "white" ∨ k n = "black"
  gin : ∀ n ∈ σ.keys, k n ≠ "black" → G n = true
  cnt : ∀ x, c x = σ.count x - dg σ (fun g => k g ≠ "black" ∨ g ∈ wb) x
  clo : ∀ n, G n = true → k n = "black" → n ∉ wb → ∀ x ∈ kids σ n, k x = "black"
  liv : ∀ n, G n = true → k n = "black" → Live σ n
  wht : ∀ n ∈ σ.keys, k n = "white" → ext σ G n ≤ 0
  wkid : ∀ n ∈ σ.keys, k n = "white" → ∀ x ∈ kids σ n, k x ≠ "grey" ∨ x ∈ w
  wsub : ∀ n ∈ w, G n = true
  done : ∀ s ∈ D, k s ≠ "grey" ∨ s ∈ w
  bsub : ∀ n ∈ wb, G n = true ∧ k n = "black"
  bnd : wb.Nodup
theorem SB.ext {G : Int → Bool} {D w : List Int} {c : Int → Int} {k : Int → String} (g : GOk σ G) (h : SB σ G D w c k []) {x : Int} (hx : k x ≠ "black") : c x = ext σ G x := by
  rw [h.cnt x]
  unfold Mine.ext dg
  have : sumL σ.keys (fun g => if k g ≠ "black" ∨ g ∈ ([] : List Int) then kc σ g x else 0) = sumL σ.keys (fun g => if G g = true then kc σ g x else 0) := sumL_congr fun n hn => by
    by_cases e : k n = "black"
    · by_cases z : G n = true
      · rw [if_pos z]
        have : kc σ n x = 0 := kc_zero fun q => hx (h.clo n z e (by simp) x q)
        rw [this]; split <;> rfl
      · rw [if_neg z, if_neg (by simp [e])]
    · rw [if_pos (.inl e), if_pos (h.gin n hn e)]
  rw [this]
theorem SB.step {G : Int → Bool} {D w : List Int} {c : Int → Int} {k : Int → String} {wb : List Int} {n : Int} (g : GOk σ G) (h : SB σ G D w c k (wb ++ [n])) :
    n ∈ σ.keys ∧ ∃ c' k' w', (kids σ n).foldl sbStep (c, k, wb) = (c', k', w') ∧ SB σ G D w c' k' w' ∧ (∀ x, k' x = k x ∨ k' x = "black") ∧
      wk σ (fun g => k g ≠ "black" ∨ g ∈ wb ++ [n]) = wk σ (fun g => k' g ≠ "black" ∨ g ∈ w') + ((kids σ n).length + 1) := by
  obtain ⟨hG, hb⟩ := h.bsub n (by simp)
  have hn := g.mem n hG
  refine ⟨hn, ?_⟩
  obtain ⟨f1, f2, new, f3, f4, f5⟩ := sb_facts (kids σ n) c k wb
  generalize (kids σ n).foldl sbStep (c, k, wb) = s at f1 f2 f3 ⊢
  obtain ⟨c', k', w'⟩ := s
  simp only at f1 f2 f3
  have nd := List.nodup_append.mp h.bnd
  have hnw : n ∉ wb := fun q => nd.2.2 n q n (by simp) rfl
  have hnn : n ∉ new := fun q => ((f5 n).mp q).2 hb
  have mono : ∀ x, k' x = k x ∨ k' x = "black" := fun x => by rw [f2]; split <;> simp
  have kb : ∀ x, k x = "black" → k' x = "black" := fun x e => by rcases mono x with q | q <;> simp [q, e]
  have pq : ∀ m ∈ σ.keys, m ≠ n → ((k m ≠ "black" ∨ m ∈ wb ++ [n]) ↔ (k' m ≠ "black" ∨ m ∈ w')) := fun m _ e => by
    rw [f3, List.mem_append, List.mem_append, List.mem_singleton, f5, f2]
    by_cases a : m ∈ kids σ n <;> by_cases b : k m = "black" <;> simp [a, b, e]
  have qn : ¬ (k' n ≠ "black" ∨ n ∈ w') := by
    rw [f3, List.mem_append]; simp [kb n hb, hnw, hnn]
  refine ⟨c', k', w', rfl, ⟨fun m hm => ?_, fun m hm e => ?_, fun x => ?_, fun m hm e hw x hx => ?_, fun m hm e => ?_, fun m hm e => ?_, fun m hm e x hx => ?_, h.wsub, fun s hs => ?_, fun m hm => ?_, ?_⟩, mono,
    wk_one (σ := σ) (p := fun g => k g ≠ "black" ∨ g ∈ wb ++ [n]) (q := fun g => k' g ≠ "black" ∨ g ∈ w') g.W.ndk hn (.inr (by simp)) qn pq⟩
  · rcases mono m with q | q
    · rw [q]; exact h.col m hm
    · simp [q]
  · exact h.gin m hm fun q => e (kb m q)
  · have e1 := dg_one (σ := σ) (p := fun g => k g ≠ "black" ∨ g ∈ wb ++ [n]) (q := fun g => k' g ≠ "black" ∨ g ∈ w') g.W.ndk hn (.inr (by simp)) qn pq x
    have e2 := h.cnt x
    have e3 : c' x = c x + kc σ n x := by rw [f1]; unfold addK kc; lia
    lia
  · by_cases z : m = n
    · subst z; rw [f2, if_pos hx]
    · have hk : k m = "black" := Classical.byContradiction fun q => by
        have : m ∈ kids σ n := Classical.byContradiction fun y => by rw [f2, if_neg y] at e; exact q e
        exact hw (by rw [f3]; exact List.mem_append_right _ ((f5 m).mpr ⟨this, q⟩))
      exact kb x (h.clo m hm hk (fun q => by
        rcases List.mem_append.mp q with q | q
        · exact hw (by rw [f3]; exact List.mem_append_left _ q)
        · exact z (List.mem_singleton.mp q)) x hx)
  · by_cases y : k m = "black"
    · exact h.liv m hm y
    · have : m ∈ kids σ n := Classical.byContradiction fun z => by rw [f2, if_neg z] at e; exact y e
      exact .step (h.liv n hG hb) hn this
  · rcases mono m with q | q
    · exact h.wht m hm (q ▸ e)
    · rw [q] at e; simp at e
  · have e' : k m = "white" := by
      rcases mono m with q | q
      · exact q ▸ e
      · rw [q] at e; simp at e
    rcases h.wkid m hm e' x hx with q | q
    · left
      rcases mono x with y | y
      · rw [y]; exact q
      · rw [y]; decide
    · exact .inr q
  · rcases h.done s hs with q | q
    · left
      rcases mono s with y | y
      · rw [y]; exact q
      · rw [y]; decide
    · exact .inr q
  · rw [f3] at hm
    rcases List.mem_append.mp hm with q | q
    · obtain ⟨a, b⟩ := h.bsub m (List.mem_append_left _ q)
      exact ⟨a, kb m b⟩
    · have := (f5 m).mp q
      exact ⟨g.clo n hG m this.1, by rw [f2, if_pos this.1]⟩
  · rw [f3]
    exact List.nodup_append.mpr ⟨nd.1, f4, fun a ha b hb' e => by
      subst e
      exact ((f5 a).mp hb').2 (h.bsub a (List.mem_append_left _ ha)).2⟩
theorem SB.toBlack {G : Int → Bool} {D w : List Int} {c : Int → Int} {k : Int → String} {n : Int} (g : GOk σ G) (h : SB σ G D (w ++ [n]) c k []) (hg : k n = "grey") (hc : 0 < c n) : SB σ G D w c (upd k n "black") [n] := by
  have hG := h.wsub n (by simp)
  have hn := g.mem n hG
  have nb : k n ≠ "black" := by rw [hg]; decide
  have hl : Live σ n := g.live hn (by rw [← h.ext g nb]; exact hc)
  have kb : ∀ x, k x = "black" → upd k n "black" x = "black" := fun x e => by unfold upd; split <;> simp [e]
  have mono : ∀ x, upd k n "black" x = k x ∨ upd k n "black" x = "black" := fun x => by unfold upd; split <;> simp
  refine ⟨fun m hm => ?_, fun m hm e => h.gin m hm fun q => e (kb m q), fun x => ?_, fun m hm e hw x hx => ?_, fun m hm e => ?_, fun m hm e => ?_, fun m hm e x hx => ?_, fun m hm => h.wsub m (by simp [hm]), fun s hs => ?_, fun m hm => ?_, by simp⟩
  · rcases mono m with q | q
    · rw [q]; exact h.col m hm
    · simp [q]
  · rw [h.cnt x]
    congr 1
    refine dg_congr (fun m hm => ?_) x
    by_cases z : m = n
    · subst z; simp [nb, upd_self]
    · simp [z, upd_ne _ _ z]
  · have z : m ≠ n := fun q => hw (by simp [q])
    rw [upd_ne _ _ z] at e
    exact kb x (h.clo m hm e (by simp) x hx)
  · by_cases z : m = n
    · subst z; exact hl
    · rw [upd_ne _ _ z] at e; exact h.liv m hm e
  · rcases mono m with q | q
    · exact h.wht m hm (q ▸ e)
    · rw [q] at e; simp at e
  · have e' : k m = "white" := by
      rcases mono m with q | q
      · exact q ▸ e
      · rw [q] at e; simp at e
    by_cases z : x = n
    · subst z; left; rw [upd_self]; decide
    · rw [upd_ne _ _ z]
      rcases h.wkid m hm e' x hx with q | q
      · exact .inl q
      · right
        rcases List.mem_append.mp q with q | q
        · exact q
        · exact absurd (List.mem_singleton.mp q) z
  · by_cases z : s = n
    · subst z; left; rw [upd_self]; decide
    · rw [upd_ne _ _ z]
      rcases h.done s hs with q | q
      · exact .inl q
      · right
        rcases List.mem_append.mp q with q | q
        · exact q
        · exact absurd (List.mem_singleton.mp q) z
  · rw [List.mem_singleton.mp hm]; exact ⟨hG, upd_self ..⟩
theorem SB.toWhite {G : Int → Bool} {D w : List Int} {c : Int → Int} {k : Int → String} {n : Int} (g : GOk σ G) (h : SB σ G D (w ++ [n]) c k []) (hg : k n = "grey") (hc : c n ≤ 0) : SB σ G D (w ++ kids σ n) c (upd k n "white") [] := by
  have hG := h.wsub n (by simp)
  have hn := g.mem n hG
  have nb : k n ≠ "black" := by rw [hg]; decide
  have kb : ∀ x, upd k n "white" x = "black" ↔ k x = "black" := fun x => by
    by_cases z : x = n
    · subst z; rw [upd_self]; simp [nb]
    · rw [upd_ne _ _ z]
  have hxt : Mine.ext σ G n ≤ 0 := by rw [← h.ext g nb]; exact hc
  refine ⟨fun m hm => ?_, fun m hm e => h.gin m hm fun q => e ((kb m).mpr q), fun x => ?_, fun m hm e hw x hx => (kb x).mpr (h.clo m hm ((kb m).mp e) (by simp) x hx), fun m hm e => h.liv m hm ((kb m).mp e), fun m hm e => ?_, fun m hm e x hx => ?_, fun m hm => ?_, fun s hs => ?_, fun m hm => (by cases hm), by simp⟩
  · by_cases z : m = n
    · subst z; simp [upd_self]
    · rw [upd_ne _ _ z]; exact h.col m hm
  · rw [h.cnt x]
    congr 1
    exact dg_congr (fun m hm => by simp only [List.not_mem_nil, or_false]; exact (not_congr (kb m)).symm) x
  · by_cases z : m = n
    · subst z; exact hxt
    · rw [upd_ne _ _ z] at e; exact h.wht m hm e
  · by_cases z : x = n
    · subst z; left; rw [upd_self]; decide
    · rw [upd_ne _ _ z]
      by_cases y : m = n
      · subst y; right; simp [hx]
      · rw [upd_ne _ _ y] at e
        rcases h.wkid m hm e x hx with q | q
        · exact .inl q
        · right
          rcases List.mem_append.mp q with q | q
          · simp [q]
          · exact absurd (List.mem_singleton.mp q) z
  · rcases List.mem_append.mp hm with q | q
    · exact h.wsub m (by simp [q])
    · exact g.clo n hG m q
  · by_cases z : s = n
    · subst z; left; rw [upd_self]; decide
    · rw [upd_ne _ _ z]
      rcases h.done s hs with q | q
      · exact .inl q
      · right
        rcases List.mem_append.mp q with q | q
        · simp [q]
        · exact absurd (List.mem_singleton.mp q) z
theorem SB.skip {G : Int → Bool} {D w : List Int} {c : Int → Int} {k : Int → String} {n : Int} (h : SB σ G D (w ++ [n]) c k []) (hg : k n ≠ "grey") : SB σ G D w c k [] := by
  refine ⟨h.col, h.gin, h.cnt, h.clo, h.liv, h.wht, fun m hm e x hx => ?_, fun m hm => h.wsub m (by simp [hm]), fun s hs => ?_, h.bsub, h.bnd⟩
  · rcases h.wkid m hm e x hx with q | q
    · exact .inl q
    · rcases List.mem_append.mp q with q | q
      · exact .inr q
      · rw [List.mem_singleton.mp q]; exact .inl hg
  · rcases h.done s hs with q | q
    · exact .inl q
    · rcases List.mem_append.mp q with q | q
      · exact .inr q
      · rw [List.mem_singleton.mp q]; exact .inl hg
end
end Mine
end
noncomputable section
namespace Mine
theorem sortI_perm (l : List Int) : (sortI l).Perm l := List.mergeSort_perm _ _
theorem sortI_sorted (l : List Int) : (sortI l).Pairwise (· ≤ ·) := by
  have := List.pairwise_mergeSort (le := fun a b : Int => decide (a ≤ b)) (fun a b c => by simp; lia) (fun a b => by simp; lia) l
  exact this.imp fun h => by simpa using h
theorem sortI_mem {l : List Int} {x : Int} : x ∈ sortI l ↔ x ∈ l := List.mem_mergeSort
theorem sortI_len (l : List Int) : (sortI l).length = l.length := (sortI_perm l).length_eq
theorem sortI_nd {l : List Int} : (sortI l).Nodup ↔ l.Nodup := (sortI_perm l).nodup_iff
theorem sortI_congr {a b : List Int} (h : a.Perm b) : sortI a = sortI b :=
  List.Perm.eq_of_pairwise (le := (· ≤ ·)) (fun a b _ _ x y => Int.le_antisymm x y) (sortI_sorted a) (sortI_sorted b) ((sortI_perm a).trans (h.trans (sortI_perm b).symm))
theorem sortI_ext {a b : List Int} (ha : a.Nodup) (hb : b.Nodup) (h : ∀ x, x ∈ a ↔ x ∈ b) : sortI a = sortI b := sortI_congr ((List.perm_ext_iff_of_nodup ha hb).mpr h)
theorem sorted_eq {a b : List Int} (ha : a.Pairwise (· ≤ ·)) (hb : b.Pairwise (· ≤ ·)) (na : a.Nodup) (nb : b.Nodup) (h : ∀ x, x ∈ a ↔ x ∈ b) : a = b :=
  List.Perm.eq_of_pairwise (le := (· ≤ ·)) (fun a b _ _ x y => Int.le_antisymm x y) ha hb ((List.perm_ext_iff_of_nodup na nb).mpr h)
open Classical in
noncomputable def liveB (σ : St) (n : Int) : Bool := decide (Live σ n)
theorem liveB_iff {σ : St} {n : Int} : liveB σ n = true ↔ Live σ n := by unfold liveB; simp
theorem liveB_false {σ : St} {n : Int} : liveB σ n = false ↔ ¬ Live σ n := by rw [← liveB_iff]; simp
noncomputable def gone (σ : St) : List Int := sortI (σ.keys.filter fun n => !liveB σ n)
noncomputable def here (σ : St) : List Int := sortI (σ.keys.filter fun n => liveB σ n)
theorem gone_mem {σ : St} {n : Int} : n ∈ gone σ ↔ n ∈ σ.keys ∧ ¬ Live σ n := by unfold gone; rw [sortI_mem, List.mem_filter, ← liveB_iff]; simp
theorem here_mem {σ : St} {n : Int} : n ∈ here σ ↔ n ∈ σ.keys ∧ Live σ n := by unfold here; rw [sortI_mem, List.mem_filter, liveB_iff]
theorem filter_nd {l : List Int} (h : l.Nodup) (p : Int → Bool) : (l.filter p).Nodup := List.filter_sublist.nodup h
theorem gone_nd {σ : St} (h : σ.keys.Nodup) : (gone σ).Nodup := sortI_nd.mpr (filter_nd h _)
theorem here_nd {σ : St} (h : σ.keys.Nodup) : (here σ).Nodup := sortI_nd.mpr (filter_nd h _)
section
variable {σ : St}
theorem SB.zero (C : Cl σ) {S : List Int} (hS : ∀ x ∈ S, x ∈ σ.keys) {c : Int → Int} {k : Int → String} (h : MI σ S S c k []) (hc : ∀ n ∈ σ.keys, n ∉ S → σ.colour n = "black") : SB σ (fun n => decide (n ∈ σ.keys ∧ k n = "grey")) [] [] c k [] := by
  have gb : ∀ n ∈ σ.keys, k n = "grey" ∨ k n = "black" := fun n hn => by
    by_cases e : k n = "grey"
    · exact .inl e
    · right
      rw [h.col n hn e]
      exact hc n hn fun q => e ((h.end C hS n).mpr (.root q)).2
  refine ⟨fun n hn => ?_, fun n hn e => ?_, fun x => ?_, fun n hn e _ => ?_, fun n hn e => ?_, fun n hn e => ?_, fun n hn e => ?_, fun n hn => (by cases hn), fun n hn => (by cases hn), fun n hn => (by cases hn), by simp⟩
  · rcases gb n hn with q | q <;> simp [q]
  · rcases gb n hn with q | q
    · simp [q, hn]
    · exact absurd q e
  · rw [h.cnt x]
    congr 1
    refine dg_congr (fun m hm => ?_) x
    rcases gb m hm with q | q <;> simp [q]
  · simp only [decide_eq_true_eq] at hn; rw [hn.2] at e; simp at e
  · simp only [decide_eq_true_eq] at hn; rw [hn.2] at e; simp at e
  · rcases gb n hn with q | q <;> (rw [q] at e; simp at e)
  · rcases gb n hn with q | q <;> (rw [q] at e; simp at e)
theorem SB.start {G : Int → Bool} {D : List Int} {c : Int → Int} {k : Int → String} {n : Int} (h : SB σ G D [] c k []) (hG : G n = true) : SB σ G (D ++ [n]) [n] c k [] := by
  refine ⟨h.col, h.gin, h.cnt, h.clo, h.liv, h.wht, fun m hm e x hx => ?_, fun m hm => ?_, fun s hs => ?_, h.bsub, h.bnd⟩
  · rcases h.wkid m hm e x hx with q | q
    · exact .inl q
    · cases q
  · rw [List.mem_singleton.mp hm]; exact hG
  · rcases List.mem_append.mp hs with q | q
    · rcases h.done s q with z | z
      · exact .inl z
      · cases z
    · exact .inr q
theorem SB.end {G : Int → Bool} {S : List Int} {c : Int → Int} {k : Int → String} (g : GOk σ G) (hG : ∀ n, G n = true ↔ Rch σ (· ∈ S) n) (h : SB σ G S [] c k []) :
    (∀ n ∈ σ.keys, k n = "white" ∨ k n = "black") ∧ (∀ n ∈ σ.keys, k n = "white" ↔ ¬ Live σ n) ∧ (∀ x, c x = σ.count x - dg σ (fun g => k g = "white") x) := by
  have ng : ∀ n, Rch σ (· ∈ S) n → k n ≠ "grey" := fun n hr => by
    induction hr with
    | root hs =>
      rcases h.done _ hs with q | q
      · exact q
      · cases q
    | @step m n hm hk hx ih =>
      rcases h.col m hk with q | q | q
      · exact absurd q ih
      · rcases h.wkid m hk q n hx with z | z
        · exact z
        · cases z
      · rw [h.clo m ((hG m).mpr hm) q (by simp) n hx]; decide
  have wb : ∀ n ∈ σ.keys, k n = "white" ∨ k n = "black" := fun n hn => by
    rcases h.col n hn with q | q | q
    · exact absurd q (ng n ((hG n).mp (h.gin n hn (by rw [q]; decide))))
    · exact .inl q
    · exact .inr q
  have lb : ∀ n, Live σ n → G n = true → k n = "black" := fun n hl => by
    have nw : ∀ n ∈ σ.keys, 0 < Mine.ext σ G n → k n = "black" := fun n hn e => by
      rcases wb n hn with q | q
      · have := h.wht n hn q; lia
      · exact q
    induction hl with
    | root hv => intro hg; exact nw _ (g.mem _ hg) (g.ext_pos (g.mem _ hg) (.inl hv))
    | @step m n hm hk hx ih =>
      intro hg
      by_cases z : G m = true
      · exact h.clo m z (ih z) (by simp) n hx
      · exact nw _ (g.mem _ hg) (g.ext_pos (g.mem _ hg) (.inr ⟨m, hk, by simpa using z, hx⟩))
  refine ⟨wb, fun n hn => ⟨fun e hl => ?_, fun hl => ?_⟩, fun x => ?_⟩
  · have := lb n hl (h.gin n hn (by rw [e]; decide))
    rw [this] at e; simp at e
  · rcases wb n hn with q | q
    · exact q
    · rcases g.cov n hn with z | z
      · exact absurd (h.liv n z q) hl
      · exact absurd z hl
  · rw [h.cnt x]
    congr 1
    refine dg_congr (fun m hm => ?_) x
    rcases wb m hm with q | q <;> simp [q]
structure GI (σ : St) (S : List Int) (k2 : Int → String) (c : Int → Int) (k : Int → String) (w found : List Int) : Prop where
  col : ∀ n ∈ σ.keys, k n = "white" ∨ k n = "black"
  cnt : ∀ x, c x = σ.count x - dg σ (fun g => k g = "white") x
  nd : found.Nodup
  fnd : ∀ n, n ∈ found ↔ n ∈ σ.keys ∧ k2 n = "white" ∧ k n = "black"
  mono : ∀ n ∈ σ.keys, k2 n = "black" → k n = "black"
  kid : ∀ n ∈ found, ∀ x ∈ kids σ n, k x = "black" ∨ x ∈ w
  done : ∀ s ∈ S, k s = "black" ∨ s ∈ w
  wsub : ∀ n ∈ w, n ∈ σ.keys
theorem GI.zero {S : List Int} {c : Int → Int} {k : Int → String} (h1 : ∀ n ∈ σ.keys, k n = "white" ∨ k n = "black") (h2 : ∀ x, c x = σ.count x - dg σ (fun g => k g = "white") x) (hs : ∀ n ∈ S, n ∈ σ.keys) : GI σ S k c k S [] :=
  ⟨h1, h2, List.nodup_nil, fun n => ⟨fun h => (by cases h), fun ⟨_, a, b⟩ => by rw [a] at b; simp at b⟩, fun _ _ e => e, fun n h => (by cases h), fun s h => .inr h, hs⟩
theorem GI.step (W : Wf σ) (C : Cl σ) {S : List Int} {k2 : Int → String} {c : Int → Int} {k : Int → String} {w found : List Int} {n : Int} (hk2 : k2 n = "white" ∨ k2 n = "black") (h : GI σ S k2 c k (w ++ [n]) found) :
    (k n = "white" → GI σ S k2 (addK c (kids σ n) 1) (upd k n "black") (w ++ kids σ n) (found ++ [n])) ∧ (k n ≠ "white" → GI σ S k2 c k w found) := by
  have hn := h.wsub n (by simp)
  refine ⟨fun hw => ?_, fun hw => ?_⟩
  · have kb : ∀ x, k x = "black" → upd k n "black" x = "black" := fun x e => by unfold upd; split <;> simp [e]
    have hk2w : k2 n = "white" := by
      rcases hk2 with q | q
      · exact q
      · have := h.mono n hn q; rw [hw] at this; simp at this
    have hnf : n ∉ found := fun q => by have := ((h.fnd n).mp q).2.2; rw [hw] at this; simp at this
    refine ⟨fun m hm => ?_, fun x => ?_, ?_, fun m => ?_, fun m hm e => kb m (h.mono m hm e), fun m hm x hx => ?_, fun s hs => ?_, fun m hm => ?_⟩
    · by_cases z : m = n
      · subst z; simp [upd_self]
      · rw [upd_ne _ _ z]; exact h.col m hm
    · have e1 := dg_one (σ := σ) (p := fun g => k g = "white") (q := fun g => upd k n "black" g = "white") W.ndk hn hw (by simp [upd_self]) (fun m hm e => by show _ ↔ upd k n "black" m = _; rw [upd_ne _ _ e]) x
      have e2 := h.cnt x
      have e3 : addK c (kids σ n) 1 x = c x + kc σ n x := by unfold addK kc; lia
      lia
    · exact List.nodup_append.mpr ⟨h.nd, by simp, fun a ha b hb e => by rw [List.mem_singleton.mp hb] at e; exact hnf (e ▸ ha)⟩
    · rw [List.mem_append, h.fnd, List.mem_singleton]
      by_cases z : m = n
      · subst z; simp [upd_self, hn, hk2w]
      · simp [z, upd_ne _ _ z]
    · by_cases ex : x = n
      · subst ex; left; exact upd_self ..
      · rw [upd_ne _ _ ex]
        rcases List.mem_append.mp hm with q | q
        · rcases h.kid m q x hx with z | z
          · exact .inl z
          · right
            rcases List.mem_append.mp z with z | z
            · exact List.mem_append_left _ z
            · exact absurd (List.mem_singleton.mp z) ex
        · rw [List.mem_singleton.mp q] at hx; right; exact List.mem_append_right _ hx
    · by_cases e : s = n
      · subst e; left; exact upd_self ..
      · rw [upd_ne _ _ e]
        rcases h.done s hs with q | q
        · exact .inl q
        · right
          rcases List.mem_append.mp q with q | q
          · exact List.mem_append_left _ q
          · exact absurd (List.mem_singleton.mp q) e
    · rcases List.mem_append.mp hm with q | q
      · exact h.wsub m (by simp [q])
      · exact kids_mem C hn q
  · have hb : k n = "black" := by
      rcases h.col n hn with q | q
      · exact absurd q hw
      · exact q
    refine ⟨h.col, h.cnt, h.nd, h.fnd, h.mono, fun m hm x hx => ?_, fun s hs => ?_, fun m hm => h.wsub m (by simp [hm])⟩
    · rcases h.kid m hm x hx with q | q
      · exact .inl q
      · rcases List.mem_append.mp q with q | q
        · exact .inr q
        · rw [List.mem_singleton.mp q]; exact .inl hb
    · rcases h.done s hs with q | q
      · exact .inl q
      · rcases List.mem_append.mp q with q | q
        · exact .inr q
        · rw [List.mem_singleton.mp q]; exact .inl hb
theorem GI.end {G : Int → Bool} {S : List Int} {k2 : Int → String} {c c2 : Int → Int} {k : Int → String} {found : List Int} (g : GOk σ G) (hG : ∀ n, G n = true ↔ Rch σ (· ∈ S) n) (h2 : SB σ G S [] c2 k2 []) (h : GI σ S k2 c k [] found) :
    (∀ n ∈ σ.keys, k n = "black") ∧ c = σ.count ∧ sortI found = gone σ := by
  have e2 := h2.end g hG
  have gb : ∀ n, Rch σ (· ∈ S) n → k n = "black" := fun n hr => by
    induction hr with
    | root hs =>
      rcases h.done _ hs with q | q
      · exact q
      · cases q
    | @step m n hm hk hx ih =>
      rcases e2.1 m hk with q | q
      · rcases h.kid m ((h.fnd m).mpr ⟨hk, q, ih⟩) n hx with z | z
        · exact z
        · cases z
      · exact h.mono n (kids_mem g.C hk hx) (h2.clo m ((hG m).mpr hm) q (by simp) n hx)
  have ab : ∀ n ∈ σ.keys, k n = "black" := fun n hn => by
    by_cases z : k2 n = "black"
    · exact h.mono n hn z
    · exact gb n ((hG n).mp (h2.gin n hn z))
  refine ⟨ab, ?_, ?_⟩
  · funext x
    rw [h.cnt x]
    have : dg σ (fun g => k g = "white") x = sumL σ.keys fun _ => 0 := sumL_congr fun n hn => if_neg (by show ¬ k n = "white"; rw [ab n hn]; decide)
    rw [this, sumL_zero]; lia
  · unfold gone
    refine sortI_ext h.nd (filter_nd g.W.ndk _) fun x => ?_
    rw [h.fnd, List.mem_filter]
    constructor
    · rintro ⟨a, b, _⟩
      refine ⟨a, ?_⟩
      have := (e2.2.1 x a).mp b
      rw [← liveB_iff] at this; simpa using this
    · rintro ⟨a, b⟩
      exact ⟨a, (e2.2.1 x a).mpr (by rw [← liveB_iff]; simpa using b), ab x a⟩
end
end Mine
end
noncomputable section
namespace Mine
open PySem PySem.W PyProof.Rows
noncomputable def SBStep (σ : St) (I : Nat → (Int → Int) → (Int → String) → List Int → Prop) : Prop := ∀ m c k w n, I m c k (w ++ [n]) → n ∈ σ.keys ∧ w.length ≤ 50000 ∧
  ∃ m', m' < m ∧ I m' ((kids σ n).foldl sbStep (c, k, w)).1 ((kids σ n).foldl sbStep (c, k, w)).2.1 ((kids σ n).foldl sbStep (c, k, w)).2.2
noncomputable def ScStep (σ : St) (I : Nat → (Int → Int) → (Int → String) → List Int → Prop) : Prop := ∀ m c k w n, I m c k (w ++ [n]) → n ∈ σ.keys ∧ w.length ≤ 50000 ∧
  (k n ≠ "grey" → ∃ m', m' < m ∧ I m' c k w) ∧ (k n = "grey" → c n ≤ 0 → ∃ m', m' < m ∧ I m' c (upd k n "white") (w ++ kids σ n)) ∧
  (k n = "grey" → 0 < c n → ∃ I2, SBStep σ I2 ∧ (∃ m2, I2 m2 c (upd k n "black") [n]) ∧ ∀ m3 c' k', I2 m3 c' k' [] → ∃ m', m' < m ∧ I m' c' k' w)
theorem sb_len (l : List Int) : ∀ s : CKW, (l.foldl sbStep s).2.2.length ≤ s.2.2.length + l.length := by
  induction l with
  | nil => intro s; simp
  | cons a r ih =>
    intro s
    have h := ih (sbStep s a)
    rw [List.foldl_cons, List.length_cons]
    have : (sbStep s a).2.2.length ≤ s.2.2.length + 1 := by unfold sbStep; dsimp only; split <;> simp
    lia
section
variable {σ : St} {H : Hp} {k b : Nat} {Q : V → Hp → Prop}
theorem sb_for {c : Int → Int} {kk : Int → String} {N M : Nat} {w l : List Int}
    {K : Nat} {ρ : Env} {r : List LS} {QS : PostS} (hρ : ρ "waiting" = some (.obj (.loc N))) (hNM : N ≠ M) (R : Rep (σ.cc c kk) H) (W : Wf σ) (hN : H (.loc N) = some (.list (objs w))) (hM : H (.loc M) = some (.list (objs l))) (hl : ∀ m ∈ l, m ∈ σ.keys) (hlen : w.length + l.length ≤ 90000)
    (q : ∀ ρ' H', Rep (σ.cc (l.foldl sbStep (c, kk, w)).1 (l.foldl sbStep (c, kk, w)).2.1) H' → LkX N H H' → H' (.loc N) = some (.list (objs (l.foldl sbStep (c, kk, w)).2.2)) → (∀ x, x ≠ "child" → ρ' x = ρ x) → wpSs (callP tab K) r ρ' QS H') :
    ForI (callP tab K) ["child"] .plain [.augAttr (.var "child") "count" .add (.int 1), .ifs (.cmp .ne (.attr (.var "child") "colour") (.str "black")) [.assignAttr (.var "child") "colour" (.str "black"), .expr (.meth (.var "waiting") .append [(.var "child")])] []] r ρ QS (.obj (.loc M)) H := by
  obtain ⟨I, hI0⟩ : ∃ I : Nat → Env → Hp → Prop, I = fun j ρ' H' => (∀ x, x ≠ "child" → ρ' x = ρ x) ∧ Rep (σ.cc ((l.take j).foldl sbStep (c, kk, w)).1 ((l.take j).foldl sbStep (c, kk, w)).2.1) H' ∧ LkX N H H' ∧ H' (.loc N) = some (.list (objs ((l.take j).foldl sbStep (c, kk, w)).2.2)) := ⟨_, rfl⟩
  refine for_i (items := objs l) (keep := some (.loc M)) I (srcL hM) (by rw [hI0]; exact ⟨fun _ _ => rfl, by simpa using R, LkX.refl _ _, by simpa using hN⟩) ?_ ?_ ?_
  · intro j ρ' H' h
    rw [hI0] at h
    obtain ⟨_, _, L, _⟩ := h
    show H' (.loc M) = H (.loc M)
    rw [hM]; exact L M _ (Ne.symm hNM) hM
  · intro j ρ' H' it hit h
    rw [hI0] at h
    obtain ⟨hx, R', L, e⟩ := h
    have hj : j < l.length := by
      have := (List.getElem?_eq_some_iff.mp hit).1; simpa [objs] using this
    have hit' : it = .obj (.cell l[j]) := by
      unfold objs at hit
      rw [List.getElem?_map, List.getElem?_eq_getElem hj] at hit
      simpa using hit.symm
    have hmk : l[j] ∈ σ.keys := hl _ (List.getElem_mem hj)
    have ht : l.take (j + 1) = l.take j ++ [l[j]] := by rw [List.take_add_one, List.getElem?_eq_getElem hj]; rfl
    have hsl := sb_len (l.take j) (c, kk, w)
    have hjl : (l.take j).length ≤ l.length := by simp; lia
    have hnext : ∀ ρ5 H5, (∀ x, x ≠ "child" → ρ5 x = ρ x) → Rep (σ.cc (sbStep ((l.take j).foldl sbStep (c, kk, w)) l[j]).1 (sbStep ((l.take j).foldl sbStep (c, kk, w)) l[j]).2.1) H5 → LkX N H H5 → H5 (.loc N) = some (.list (objs (sbStep ((l.take j).foldl sbStep (c, kk, w)) l[j]).2.2)) → I (j + 1) ρ5 H5 := fun ρ5 H5 x1 x2 x3 x4 => by
      rw [hI0]; dsimp only; rw [ht, List.foldl_append]; exact ⟨x1, x2, x3, x4⟩
    generalize (l.take j).foldl sbStep (c, kk, w) = s at R' e hsl hnext
    generalize l[j] = a at hit' hmk hnext
    obtain ⟨c1, k1, w1⟩ := s
    simp only at R' e hsl
    subst hit'
    refine ⟨_, rfl, ?_⟩
    obtain ⟨p1, R2⟩ := R'.cc_cnt W hmk 1
    have hw : ρ' "waiting" = some (.obj (.loc N)) := (hx _ (by decide)).trans hρ
    refine s_aug (i_var rfl ⟨_, (R'.cc_a hmk).1, i_int (b_addi ⟨_, p1, ?_⟩)⟩)
    have L2 : LkX N H' (H'.set (.cell a) (cellO (σ.cc (upd c1 a (c1 a + 1)) k1) a)) := Lk.x (Lk.other (by intro k e; cases e) _)
    have e2 : (H'.set (.cell a) (cellO (σ.cc (upd c1 a (c1 a + 1)) k1) a)) (.loc N) = some (.list (objs w1)) := by rw [Hp.set_ne _ _ (by simp)]; exact e
    generalize H'.set (.cell a) (cellO (σ.cc (upd c1 a (c1 a + 1)) k1) a) = H2 at R2 L2 e2 ⊢
    refine s_if (i_cmp (i_attr (i_var rfl ⟨_, (R2.cc_a hmk).2.1, i_str ?_⟩)))
    have hxx : ∀ x, x ≠ "child" → (ρ'.upd "child" (.obj (.cell a))) x = ρ x := fun x hx2 => (Env.ne hx2).trans (hx x hx2)
    by_cases hb : k1 a = "black"
    · have hu : upd k1 a "black" = k1 := by funext x; unfold upd; split <;> simp_all
      rw [hb]
      refine k_nes (t := false) (by decide) (t_f rfl (s_nil (s_seq (s_nil (tn_next ?_)))))
      refine hnext _ _ hxx ?_ (L.trans L2) ?_
      · simp only [sbStep, hu]; exact R2
      · simp only [sbStep, hb, if_true]; exact e2
    · obtain ⟨p3, R3⟩ := R2.cc_col W hmk "black"
      have L3 : LkX N H2 (H2.set (.cell a) (cellO (σ.cc (upd c1 a (c1 a + 1)) (upd k1 a "black")) a)) := Lk.x (Lk.other (by intro k e; cases e) _)
      have e3 : (H2.set (.cell a) (cellO (σ.cc (upd c1 a (c1 a + 1)) (upd k1 a "black")) a)) (.loc N) = some (.list (objs w1)) := by rw [Hp.set_ne _ _ (by simp)]; exact e2
      refine k_nes (t := true) (by simpa using hb) (t_t rfl (s_attr (i_str (i_var rfl ⟨_, p3, ?_⟩))))
      generalize H2.set (.cell a) (cellO (σ.cc (upd c1 a (c1 a + 1)) (upd k1 a "black")) a) = H3 at R3 L3 e3 ⊢
      refine s_expr (i_methL (i := .loc N) (fun _ p => i_var hw p) e3 rfl (i_cons (i_var rfl (i_nil ?_))))
      refine l_app e3 (by rw [objs_len]; unfold LIM; lia) (s_nil (s_seq (s_nil (tn_next ?_))))
      refine hnext _ _ hxx (R3.loc _ _) (((L.trans L2).trans L3).trans (LkX.set _ _ _)) ?_
      rw [Hp.set_self]; simp only [sbStep, hb, if_false]; rw [objs_app w1 [a]]; rfl
  · intro ρ' H' h
    rw [hI0] at h
    obtain ⟨hx, R', L, e⟩ := h
    have : (objs l).length = l.length := objs_len l
    rw [this, List.take_length] at R' e
    exact q ρ' H' R' L e hx
end
end Mine
end
noncomputable section
namespace Mine
open PySem PySem.W PyProof.Rows
section
variable {σ : St} {H : Hp} {k b : Nat} {Q : V → Hp → Prop}
theorem sp_scan_black {I : Nat → (Int → Int) → (Int → String) → List Int → Prop} (S : SBStep σ I) (W : Wf σ) (C : Cl σ) {c : Int → Int} {kk : Int → String} {m : Nat} {n : Int} (hn : n ∈ σ.keys) (R : Rep (σ.cc c kk) H) (h : I m c (upd kk n "black") [n])
    (q : ∀ m' c' k' H', I m' c' k' [] → Rep (σ.cc c' k') H' → Lk H H' → Q .none H') : callP tab (k + 3) "scan_black" [.obj .root, .obj (.cell n)] Q H := by
  refine c_fn rfl rfl ?_
  obtain ⟨p0, R0⟩ := R.cc_col W hn "black"
  have L0 : Lk H (H.set (.cell n) (cellO (σ.cc c (upd kk n "black")) n)) := Lk.other (by intro k e; cases e) _
  unfold b_scan_black
  refine s_attr (i_str (i_var rfl ⟨_, p0, ?_⟩))
  generalize H.set (.cell n) (cellO (σ.cc c (upd kk n "black")) n) = H0 at R0 L0 ⊢
  walk_at "mw"
  refine new_loc R0 _ fun N H1 R1 L1 hN e1 => ?_
  have e1' : H1 (.loc N) = some (.list (objs [n])) := by rw [e1, Hp.set_self]; rfl
  clear e1
  obtain ⟨J, hJ⟩ : ∃ J : Nat → Env → Hp → Prop, J = fun m ρ' H' => ρ' "heap" = some (.obj .root) ∧ ρ' "waiting" = some (.obj (.loc N)) ∧ ∃ c' k' w, I m c' k' w ∧ Rep (σ.cc c' k') H' ∧ LkX N H1 H' ∧ H' (.loc N) = some (.list (objs w)) := ⟨_, rfl⟩
  refine s_while J m (by rw [hJ]; exact ⟨rfl, rfl, c, upd kk n "black", [n], h, R1, LkX.refl _ _, e1'⟩) ?_
  intro m' ρ' H' hh
  rw [hJ] at hh
  obtain ⟨h1, h2, c', k', w, hI, R', L', hN'⟩ := hh
  by_cases he : w = []
  · subst he
    exact i_var h2 (t_f (truL hN') (s_nil (r_next (q m' c' k' H' hI R' (L0.trans (LkX.back L1 hN L'))))))
  · obtain ⟨w, n, rfl⟩ := list_end w he
    obtain ⟨hnk, hwl, m2, hm2, hI2⟩ := S m' c' k' w n hI
    refine i_var h2 (t_t (truthy_snoc hN') ?_)
    refine s_for (i_call (i_cons (i_var h1 (i_cons (i_methL (i := .loc N) (fun _ p => i_var h2 p) hN' rfl (i_nil (pop_objs hN' (i_nil ?_))))))))
    have R2 := R'.loc N (.list (objs w))
    have L2 : LkX N H' (H'.set (.loc N) (.list (objs w))) := LkX.set _ _ _
    have e2 : (H'.set (.loc N) (.list (objs w))) (.loc N) = some (.list (objs w)) := Hp.set_self _ _ _
    generalize H'.set (.loc N) (.list (objs w)) = H2 at R2 L2 e2 ⊢
    refine sp_children (σ := σ.cc c' k') (k := k) R2 (W.cc _ _) hnk (fun m hm => kids_mem C hnk hm) fun M H4 R4 L4 hM e4 => ?_
    have hNM : N ≠ M := fun e => by subst e; rw [e2] at hM; cases hM
    have hk200 := kids_len W hnk
    refine sb_for (σ := σ) (w := w) (l := kids σ n) (K := k + 2) h2 hNM R4 W (L4 N _ e2) e4 (fun m hm => kids_mem C hnk hm) (by lia) ?_
    intro ρ5 H5 R5 L5 e5 hρ5
    refine s_nil (lp_next m2 hm2 ?_)
    rw [hJ]
    refine ⟨?_, ?_, _, _, _, hI2, R5, (L'.trans L2).trans (L4.x.trans L5), e5⟩
    · rw [hρ5 _ (by decide)]; exact h1
    · rw [hρ5 _ (by decide)]; exact h2
theorem ext_objs {N M : Nat} {w l : List Int} {P : V → Hp → Prop} (h1 : H (.loc N) = some (.list (objs w))) (h2 : H (.loc M) = some (.list (objs l))) (hl : w.length + l.length ≤ 90000) (q : P .none (H.set (.loc N) (.list (objs (w ++ l))))) : methL .extend (.loc N) [.obj (.loc M)] P H := by
  rw [objs_app] at q
  exact l_ext h1 h2 (by rw [objs_len, objs_len]; unfold LIM; lia) q
theorem sp_scan {I : Nat → (Int → Int) → (Int → String) → List Int → Prop} (S : ScStep σ I) (W : Wf σ) (C : Cl σ) {c : Int → Int} {kk : Int → String} {m : Nat} {n : Int} (hn : n ∈ σ.keys) (R : Rep (σ.cc c kk) H) (h : I m c kk [n])
    (q : ∀ m' c' k' H', I m' c' k' [] → Rep (σ.cc c' k') H' → Lk H H' → Q .none H') : callP tab (k + 4) "scan" [.obj .root, .obj (.cell n)] Q H := by
  refine c_fn rfl rfl ?_
  unfold b_scan
  walk_at "mw"
  refine new_loc R _ fun N H1 R1 L1 hN e1 => ?_
  have e1' : H1 (.loc N) = some (.list (objs [n])) := by rw [e1, Hp.set_self]; rfl
  clear e1
  obtain ⟨J, hJ⟩ : ∃ J : Nat → Env → Hp → Prop, J = fun m ρ' H' => ρ' "heap" = some (.obj .root) ∧ ρ' "waiting" = some (.obj (.loc N)) ∧ ∃ c' k' w, I m c' k' w ∧ Rep (σ.cc c' k') H' ∧ LkX N H1 H' ∧ H' (.loc N) = some (.list (objs w)) := ⟨_, rfl⟩
  refine s_while J m (by rw [hJ]; exact ⟨rfl, rfl, c, kk, [n], h, R1, LkX.refl _ _, e1'⟩) ?_
  intro m' ρ' H' hh
  rw [hJ] at hh
  obtain ⟨h1, h2, c', k', w, hI, R', L', hN'⟩ := hh
  by_cases he : w = []
  · subst he
    exact i_var h2 (t_f (truL hN') (s_nil (r_next (q m' c' k' H' hI R' (LkX.back L1 hN L')))))
  · obtain ⟨w, n, rfl⟩ := list_end w he
    obtain ⟨hnk, hwl, hs1, hs2, hs3⟩ := S m' c' k' w n hI
    refine i_var h2 (t_t (truthy_snoc hN') ?_)
    refine s_assign (i_methL (i := .loc N) (fun _ p => i_var h2 p) hN' rfl (i_nil (pop_objs hN' ?_)))
    have R2 := R'.loc N (.list (objs w))
    have L2 : LkX N H' (H'.set (.loc N) (.list (objs w))) := LkX.set _ _ _
    have e2 : (H'.set (.loc N) (.list (objs w))) (.loc N) = some (.list (objs w)) := Hp.set_self _ _ _
    generalize H'.set (.loc N) (.list (objs w)) = H2 at R2 L2 e2 ⊢
    obtain ⟨ρ1, hρ1⟩ : ∃ ρ1, ρ1 = ρ'.upd "here" (.obj (.cell n)) := ⟨_, rfl⟩
    rw [← hρ1]
    have v1 : ρ1 "heap" = some (.obj .root) := by rw [hρ1]; exact h1
    have v2 : ρ1 "waiting" = some (.obj (.loc N)) := by rw [hρ1]; exact h2
    have v3 : ρ1 "here" = some (.obj (.cell n)) := by rw [hρ1]; rfl
    clear hρ1
    refine s_if (i_cmp (i_attr (i_var v3 ⟨_, (R2.cc_a hnk).2.1, i_str ?_⟩)))
    by_cases hg : k' n = "grey"
    · rw [hg]
      refine k_eqs (t := true) (by decide) (t_t rfl (s_if (i_cmp (i_attr (i_var v3 ⟨_, (R2.cc_a hnk).1, i_int ?_⟩)))))
      by_cases hc : 0 < c' n
      · obtain ⟨I2, S2, ⟨m2, hi2⟩, f2⟩ := hs3 hg hc
        refine k_gt (t := true) (by simpa using hc) (t_t rfl ?_)
        walk_at "mw"
        refine sp_scan_black (k := k) S2 W C hnk R2 hi2 fun m3 c3 k3 H3 hI3 R3 L3 => ?_
        obtain ⟨m4, hm4, hI4⟩ := f2 m3 c3 k3 hI3
        refine s_nil (s_seq (s_nil (s_seq (s_nil (lp_next m4 hm4 ?_)))))
        rw [hJ]
        exact ⟨v1, v2, _, _, _, hI4, R3, (L'.trans L2).trans L3.x, L3 N _ e2⟩
      · obtain ⟨m2, hm2, hI2⟩ := hs2 hg (by lia)
        obtain ⟨p3, R3⟩ := R2.cc_col W hnk "white"
        have L3 : LkX N H2 (H2.set (.cell n) (cellO (σ.cc c' (upd k' n "white")) n)) := Lk.x (Lk.other (by intro k e; cases e) _)
        have e3 : (H2.set (.cell n) (cellO (σ.cc c' (upd k' n "white")) n)) (.loc N) = some (.list (objs w)) := by rw [Hp.set_ne _ _ (by simp)]; exact e2
        refine k_gt (t := false) (by simpa using hc) (t_f rfl (s_attr (i_str (i_var v3 ⟨_, p3, ?_⟩))))
        generalize H2.set (.cell n) (cellO (σ.cc c' (upd k' n "white")) n) = H3 at R3 L3 e3 ⊢
        refine s_expr (i_methL (i := .loc N) (fun _ p => i_var v2 p) e3 rfl ?_)
        walk_at "mw"
        refine sp_children (σ := σ.cc c' (upd k' n "white")) (k := k + 1) R3 (W.cc _ _) hnk (fun m hm => kids_mem C hnk hm) fun M H4 R4 L4 hM e4 => ?_
        have hk200 := kids_len W hnk
        refine i_nil (ext_objs (L4 N _ e3) e4 (by show w.length + (kids σ n).length ≤ _; lia) ?_)
        refine s_nil (s_seq (s_nil (s_seq (s_nil (lp_next m2 hm2 ?_)))))
        rw [hJ]
        exact ⟨v1, v2, _, _, _, hI2, R4.loc _ _, (((L'.trans L2).trans L3).trans L4.x).trans (LkX.set _ _ _), Hp.set_self _ _ _⟩
    · obtain ⟨m2, hm2, hI2⟩ := hs1 hg
      refine k_eqs (t := false) (by simpa using hg) (t_f rfl (s_nil (s_seq (s_nil (lp_next m2 hm2 ?_)))))
      rw [hJ]
      exact ⟨v1, v2, c', k', w, hI2, R2, L'.trans L2, e2⟩
noncomputable def GStep (σ : St) (I : Nat → (Int → Int) → (Int → String) → List Int → List Int → Prop) : Prop := ∀ m c k w f n, I m c k (w ++ [n]) f → n ∈ σ.keys ∧ w.length ≤ 50000 ∧ f.length ≤ 50000 ∧
  (k n = "white" → ∃ m', m' < m ∧ I m' (addK c (kids σ n) 1) (upd k n "black") (w ++ kids σ n) (f ++ [n])) ∧ (k n ≠ "white" → ∃ m', m' < m ∧ I m' c k w f)
theorem intsOf_ints (l : List Int) : intsOf (l.map V.int) = some l := by
  induction l with
  | nil => rfl
  | cons a r ih => show (intsOf (r.map V.int)).map (a :: ·) = _; rw [ih]; rfl
theorem sp_gather {I : Nat → (Int → Int) → (Int → String) → List Int → List Int → Prop} (S : GStep σ I) (W : Wf σ) (C : Cl σ) {c : Int → Int} {kk : Int → String} {m N0 : Nat} {ss : List Int} (R : Rep (σ.cc c kk) H) (h0 : H (.loc N0) = some (.list (objs ss))) (h : I m c kk ss [])
    (q : ∀ m' c' k' f, I m' c' k' [] f → f.length ≤ 60 ∧ ∀ N H', Rep (σ.cc c' k') H' → Lk H H' → H (.loc N) = none → H' (.loc N) = some (.list ((sortI f).map V.int)) → Q (.obj (.loc N)) H') : callP tab (k + 3) "gather" [.obj .root, .obj (.loc N0)] Q H := by
  refine c_fn rfl rfl ?_
  unfold b_gather
  walk_at "mw"
  refine new_loc R _ fun F HF RF LF hF eF => ?_
  have eF' : HF (.loc F) = some (.list (([] : List Int).map V.int)) := by rw [eF, Hp.set_self]; rfl
  clear eF
  walk_at "mw"
  refine w_list (LF _ _ h0) ?_
  refine new_loc RF _ fun N H1 R1 L1 hN e1 => ?_
  have e1' : H1 (.loc N) = some (.list (objs ss)) := by rw [e1, Hp.set_self]
  clear e1
  have hFN : F ≠ N := fun e => by subst e; rw [eF'] at hN; cases hN
  have hN0 := LF.none hN
  have Lstart : ∀ k o, H (.loc k) = some o → H1 (.loc k) = some o ∧ k ≠ F ∧ k ≠ N := fun k o e => ⟨(LF.trans L1) k o e, fun z => (by subst z; rw [hF] at e; cases e), fun z => (by subst z; rw [hN0] at e; cases e)⟩
  obtain ⟨J, hJ⟩ : ∃ J : Nat → Env → Hp → Prop, J = fun m ρ' H' => ρ' "heap" = some (.obj .root) ∧ ρ' "waiting" = some (.obj (.loc N)) ∧ ρ' "found" = some (.obj (.loc F)) ∧ ∃ c' k' w f, I m c' k' w f ∧ Rep (σ.cc c' k') H' ∧ Lk H H' ∧ H' (.loc N) = some (.list (objs w)) ∧ H' (.loc F) = some (.list (f.map V.int)) := ⟨_, rfl⟩
  refine s_while J m (by rw [hJ]; exact ⟨rfl, rfl, rfl, c, kk, ss, [], h, R1, LF.trans L1, e1', L1 _ _ eF'⟩) ?_
  intro m' ρ' H' hh
  rw [hJ] at hh
  obtain ⟨h1, h2, h3, c', k', w, f, hI, R', L', hN', hF'⟩ := hh
  by_cases he : w = []
  · subst he
    obtain ⟨fl, qq⟩ := q m' c' k' f hI
    refine i_var h2 (t_f (truL hN') (s_ret (i_blt (i_var h3 (w_sortedL hF' (intsOf_ints _) fl (new_loc R' _ fun M H2 R2 L2 hM e2 => ?_))))))
    exact r_ret (qq M H2 R2 (L'.trans L2) (L'.none hM) (by rw [e2, Hp.set_self]))
  · obtain ⟨w, n, rfl⟩ := list_end w he
    obtain ⟨hnk, hwl, hfl, hs1, hs2⟩ := S m' c' k' w f n hI
    refine i_var h2 (t_t (truthy_snoc hN') ?_)
    refine s_assign (i_methL (i := .loc N) (fun _ p => i_var h2 p) hN' rfl (i_nil (pop_objs hN' ?_)))
    have R2 := R'.loc N (.list (objs w))
    have L2 : Lk H (H'.set (.loc N) (.list (objs w))) := fun k o e => by
      have z : k ≠ N := (Lstart k o e).2.2
      rw [Hp.set_ne _ _ (by simpa using z)]; exact L' k o e
    have e2 : (H'.set (.loc N) (.list (objs w))) (.loc N) = some (.list (objs w)) := Hp.set_self _ _ _
    have f2 : (H'.set (.loc N) (.list (objs w))) (.loc F) = some (.list (f.map V.int)) := by rw [Hp.set_ne _ _ (by simpa using hFN)]; exact hF'
    generalize H'.set (.loc N) (.list (objs w)) = H2 at R2 L2 e2 f2 ⊢
    obtain ⟨ρ1, hρ1⟩ : ∃ ρ1, ρ1 = ρ'.upd "here" (.obj (.cell n)) := ⟨_, rfl⟩
    rw [← hρ1]
    have v1 : ρ1 "heap" = some (.obj .root) := by rw [hρ1]; exact h1
    have v2 : ρ1 "waiting" = some (.obj (.loc N)) := by rw [hρ1]; exact h2
    have v4 : ρ1 "found" = some (.obj (.loc F)) := by rw [hρ1]; exact h3
    have v3 : ρ1 "here" = some (.obj (.cell n)) := by rw [hρ1]; rfl
    clear hρ1
    refine s_if (i_cmp (i_attr (i_var v3 ⟨_, (R2.cc_a hnk).2.1, i_str ?_⟩)))
    by_cases hg : k' n = "white"
    · obtain ⟨m2, hm2, hI2⟩ := hs1 hg
      obtain ⟨p3, R3⟩ := R2.cc_col W hnk "black"
      have L3 : Lk H (H2.set (.cell n) (cellO (σ.cc c' (upd k' n "black")) n)) := L2.trans (Lk.other (by intro k e; cases e) _)
      have e3 : (H2.set (.cell n) (cellO (σ.cc c' (upd k' n "black")) n)) (.loc N) = some (.list (objs w)) := by rw [Hp.set_ne _ _ (by simp)]; exact e2
      have f3 : (H2.set (.cell n) (cellO (σ.cc c' (upd k' n "black")) n)) (.loc F) = some (.list (f.map V.int)) := by rw [Hp.set_ne _ _ (by simp)]; exact f2
      rw [hg]
      refine k_eqs (t := true) (by decide) (t_t rfl (s_attr (i_str (i_var v3 ⟨_, p3, ?_⟩))))
      generalize H2.set (.cell n) (cellO (σ.cc c' (upd k' n "black")) n) = H3 at R3 L3 e3 f3 ⊢
      refine s_expr (i_methL (i := .loc F) (fun _ p => i_var v4 p) f3 rfl (i_cons (i_attr (i_var v3 ⟨_, (R3.cc_a hnk).2.2, i_nil ?_⟩))))
      refine l_app f3 (by rw [List.length_map]; unfold LIM; lia) ?_
      have R4 := R3.loc F (.list (f.map V.int ++ [.int n]))
      have L4 : Lk H (H3.set (.loc F) (.list (f.map V.int ++ [.int n]))) := fun k o e => by
        have z : k ≠ F := (Lstart k o e).2.1
        rw [Hp.set_ne _ _ (by simpa using z)]; exact L3 k o e
      have e4 : (H3.set (.loc F) (.list (f.map V.int ++ [.int n]))) (.loc N) = some (.list (objs w)) := by rw [Hp.set_ne _ _ (by simpa using Ne.symm hFN)]; exact e3
      have f4 : (H3.set (.loc F) (.list (f.map V.int ++ [.int n]))) (.loc F) = some (.list ((f ++ [n]).map V.int)) := by rw [Hp.set_self]; simp
      generalize H3.set (.loc F) (.list (f.map V.int ++ [.int n])) = H4 at R4 L4 e4 f4 ⊢
      walk_at "mw"
      refine sp_children (σ := σ.cc c' (upd k' n "black")) (k := k) R4 (W.cc _ _) hnk (fun m hm => kids_mem C hnk hm) fun M H5 R5 L5 hM e5 => ?_
      have hNM : N ≠ M := fun e => by subst e; rw [e4] at hM; cases hM
      have hk200 := kids_len W hnk
      refine kids_for (σ := σ) (w := w) (l := kids σ n) (d := 1) (op := .add) (K := k + 2) (fun x Q H q => b_addi q) v2 hNM R5 W (L5 N _ e4) e5 (fun m hm => kids_mem C hnk hm) (by lia) ?_
      intro ρ6 H6 R6 L6 e6 hρ6
      refine s_nil (s_seq (s_nil (lp_next m2 hm2 ?_)))
      rw [hJ]
      refine ⟨?_, ?_, ?_, _, _, _, _, hI2, R6, fun k o e => L6 k o (Lstart k o e).2.2 ((L4.trans L5) k o e), e6, L6 F _ hFN (L5 F _ f4)⟩
      · rw [hρ6 _ (by decide)]; exact v1
      · rw [hρ6 _ (by decide)]; exact v2
      · rw [hρ6 _ (by decide)]; exact v4
    · obtain ⟨m2, hm2, hI2⟩ := hs2 hg
      refine k_eqs (t := false) (by simpa using hg) (t_f rfl (s_nil (s_seq (s_nil (lp_next m2 hm2 ?_)))))
      rw [hJ]
      exact ⟨v1, v2, v4, c', k', w, f, hI2, R2, L2, e2, f2⟩
end
end Mine
end
noncomputable section
namespace Mine
open PySem PySem.W PyProof.Rows
noncomputable def St.clr (σ : St) : St := { σ with buffer := [], bid := σ.bid + 1 }
noncomputable def St.unb (σ : St) (l : List Int) : St := { σ with buffer := [], bid := σ.bid + 1, buffered := fun x => if x ∈ l then false else σ.buffered x }
noncomputable def St.calm (σ : St) (k : Int → String) : St := { σ.unb σ.buffer with colour := k }
section
variable {σ : St}
theorem Wf.unb (W : Wf σ) (l : List Int) : Wf (σ.unb l) := ⟨W.last, W.nkeys, W.nlog, W.nvars, Nat.zero_le _, W.nslots, W.ref, W.ndk, W.ndv, W.nds⟩
theorem Cl.unb (C : Cl σ) (l : List Int) : Cl (σ.unb l) := ⟨C.vars, C.slots, C.nr⟩
theorem shape_unb (l : List Int) : Shape σ (σ.unb l) := ⟨rfl, rfl, rfl⟩
theorem wk_pos {p : Int → Prop} [DecidablePred p] {n : Int} (hn : n ∈ σ.keys) (hp : p n) : 0 < wk σ p := by
  have := sumL_mem_le (l := σ.keys) (f := fun g => if p g then ((kids σ g).length : Int) + 1 else 0) (fun m _ => by split <;> lia) hn
  simp only [if_pos hp] at this
  unfold wk; lia
noncomputable def ScI (σ : St) (G : Int → Bool) (D : List Int) (m : Nat) (c : Int → Int) (k : Int → String) (w : List Int) : Prop := SB σ G D w c k [] ∧ (m : Int) = wk σ (fun g => k g = "grey") + w.length ∧ m ≤ 45000
theorem ScI.step {G : Int → Bool} (g : GOk σ G) (D : List Int) : ScStep σ (ScI σ G D) := by
  rintro m c k w n ⟨h, hm, hb⟩
  have hn := g.mem n (h.wsub n (by simp))
  have nn := wk_nn σ (fun g => k g = "grey")
  rw [List.length_append, List.length_singleton] at hm
  refine ⟨hn, by lia, fun hg => ⟨m - 1, by lia, h.skip hg, by lia, by lia⟩, fun hg hc => ?_, fun hg hc => ?_⟩
  · have e := wk_one (σ := σ) (p := fun g => k g = "grey") (q := fun g => upd k n "white" g = "grey") g.W.ndk hn hg (by simp [upd_self]) (fun m hm e => by show _ ↔ upd k n "white" m = _; rw [upd_ne _ _ e])
    have nn2 := wk_nn σ (fun g => upd k n "white" g = "grey")
    obtain ⟨m', e'⟩ : ∃ m' : Nat, (m' : Int) = wk σ (fun g => upd k n "white" g = "grey") + (w ++ kids σ n).length := ⟨(wk σ (fun g => upd k n "white" g = "grey") + (w ++ kids σ n).length).toNat, by lia⟩
    rw [List.length_append] at e'
    exact ⟨m', by lia, h.toWhite g hg hc, by rw [List.length_append]; lia, by lia⟩
  · have h0 := h.toBlack g hg hc
    have mono0 : ∀ x, upd k n "black" x = k x ∨ upd k n "black" x = "black" := fun x => by unfold upd; split <;> simp
    refine ⟨fun m2 c' k' wb => SB σ G D w c' k' wb ∧ (∀ x, k' x = k x ∨ k' x = "black") ∧ (m2 : Int) = wk σ (fun g => k' g ≠ "black" ∨ g ∈ wb), ?_, ?_, ?_⟩
    · rintro m2 c' k' wb n' ⟨h2, mono, hm2⟩
      obtain ⟨hn', c3, k3, w3, e3, h3, mono3, wk3⟩ := h2.step g
      have nd := (List.nodup_append.mp h2.bnd).1
      have hl : wb.length ≤ σ.keys.length := nd.length_le_of_subset fun x hx => g.mem x (h2.bsub x (by simp [hx])).1
      have := g.W.nkeys
      have nn3 := wk_nn σ (fun g => k3 g ≠ "black" ∨ g ∈ w3)
      rw [e3]
      dsimp only
      refine ⟨hn', by lia, (wk σ (fun g => k3 g ≠ "black" ∨ g ∈ w3)).toNat, by lia, h3, fun x => ?_, by lia⟩
      rcases mono3 x with q | q
      · rw [q]; exact mono x
      · exact .inr q
    · have nn3 := wk_nn σ (fun g => upd k n "black" g ≠ "black" ∨ g ∈ [n])
      exact ⟨(wk σ (fun g => upd k n "black" g ≠ "black" ∨ g ∈ [n])).toNat, h0, mono0, by lia⟩
    · rintro m3 c' k' ⟨h3, mono, _⟩
      have hle : wk σ (fun g => k' g = "grey") ≤ wk σ (fun g => k g = "grey") := wk_le fun x hx e => by
        rcases mono x with q | q
        · rw [← q]; exact e
        · rw [q] at e; simp at e
      have nn3 := wk_nn σ (fun g => k' g = "grey")
      exact ⟨(wk σ (fun g => k' g = "grey") + w.length).toNat, by lia, h3, by lia, by lia⟩
theorem ScI.start {G : Int → Bool} (g : GOk σ G) {D : List Int} {c : Int → Int} {k : Int → String} {n : Int} (h : SB σ G D [] c k []) (hG : G n = true) : ∃ m, ScI σ G (D ++ [n]) m c k [n] := by
  have nn := wk_nn σ (fun g => k g = "grey")
  have bb := wk_bound g.W (fun g => k g = "grey")
  exact ⟨(wk σ (fun g => k g = "grey") + 1).toNat, h.start hG, by simp only [List.length_singleton]; lia, by lia⟩
noncomputable def GaI (σ : St) (S : List Int) (k2 : Int → String) (m : Nat) (c : Int → Int) (k : Int → String) (w f : List Int) : Prop := GI σ S k2 c k w f ∧ (m : Int) = wk σ (fun g => k g = "white") + w.length ∧ m ≤ 45000
theorem GaI.step (W : Wf σ) (C : Cl σ) {S : List Int} {k2 : Int → String} (hk2 : ∀ n ∈ σ.keys, k2 n = "white" ∨ k2 n = "black") : GStep σ (GaI σ S k2) := by
  rintro m c k w f n ⟨h, hm, hb⟩
  have hn := h.wsub n (by simp)
  have nn := wk_nn σ (fun g => k g = "white")
  rw [List.length_append, List.length_singleton] at hm
  have hs := h.step W C (hk2 n hn)
  have hf : f.length ≤ σ.keys.length := h.nd.length_le_of_subset fun x hx => ((h.fnd x).mp hx).1
  have := W.nkeys
  refine ⟨hn, by lia, by lia, fun hw => ?_, fun hw => ⟨m - 1, by lia, hs.2 hw, by lia, by lia⟩⟩
  have e := wk_one (σ := σ) (p := fun g => k g = "white") (q := fun g => upd k n "black" g = "white") W.ndk hn hw (by simp [upd_self]) (fun m hm e => by show _ ↔ upd k n "black" m = _; rw [upd_ne _ _ e])
  have nn2 := wk_nn σ (fun g => upd k n "black" g = "white")
  obtain ⟨m', e'⟩ : ∃ m' : Nat, (m' : Int) = wk σ (fun g => upd k n "black" g = "white") + (w ++ kids σ n).length := ⟨(wk σ (fun g => upd k n "black" g = "white") + (w ++ kids σ n).length).toNat, by lia⟩
  rw [List.length_append] at e'
  exact ⟨m', by lia, hs.1 hw, by rw [List.length_append]; lia, by lia⟩
variable {H : Hp} {k b : Nat} {Q : V → Hp → Prop}
theorem Rep.clr (R : Rep σ H) : (H.set (.buf (σ.bid + 1)) (.list [])) .root = some (rootO σ) ∧ Rep σ.clr ((H.set (.buf (σ.bid + 1)) (.list [])).set .root (rootO σ.clr)) := by
  refine ⟨R.root, rfl, R.cells, R.vars, R.log, R.plan, R.tables, ?_, fun j hj => ?_, R.cell, R.slots, R.nsl, R.new, ?_⟩
  · simp [Hp.set_apply, St.clr]
  · have hj' : σ.bid + 1 < j := hj
    have e : j ≠ σ.bid + 1 := by lia
    simp [Hp.set_apply, e, R.bufN j (by lia)]
  · exact fresh_other (fun k e => by cases e) _ (fresh_other (fun k e => by cases e) _ R.fresh)
theorem p_buffer (R : Rep σ H) : putAttr (H.set (.buf (σ.bid + 1)) (.list [])) (.obj .root) "buffer" (.obj (.buf (σ.bid + 1))) = some ((H.set (.buf (σ.bid + 1)) (.list [])).set .root (rootO σ.clr)) := by
  exact put_of (Rep.clr R).1 (Nat.le_of_ble_eq_true rfl)
theorem unb_nil : σ.unb [] = σ.clr := by unfold St.unb St.clr; simp
theorem Rep.unb1 {l : List Int} (R : Rep (σ.unb l) H) (W : Wf σ) {n : Int} (hn : n ∈ σ.keys) : putAttr H (.obj (.cell n)) "is_buffered" (.bool false) = some (H.set (.cell n) (cellO (σ.unb (l ++ [n])) n)) ∧ Rep (σ.unb (l ++ [n])) (H.set (.cell n) (cellO (σ.unb (l ++ [n])) n)) := by
  have hn' : n ∈ (σ.unb l).keys := hn
  refine ⟨?_, R.recd hn (W.last n hn) rfl rfl rfl rfl rfl rfl rfl rfl rfl rfl rfl fun m h => by simp [cellO, St.unb, h]⟩
  simp [putAttr, R.cell n hn', cellO, putF, St.unb, instP]
theorem cov_of (C : Cl σ) {S : List Int} (hS : ∀ x, x ∈ S ↔ x ∈ σ.buffer) (F : Full σ [] []) : ∀ n ∈ σ.keys, Rch σ (· ∈ S) n ∨ Live σ n := fun n hn => by
  have := F n hn
  induction this with
  | root h =>
    rcases h with h | h | h | h
    · exact .inr (.root h)
    · cases h
    · exact .inl (.root ((hS _).mpr h))
    · cases h
  | step h hm hk ih =>
    rcases ih hm with q | q
    · exact .inl (.step q hm hk)
    · exact .inr (.step q hm hk)
noncomputable def bufObj : V → V
  | .int n => .obj (.cell n)
  | v => v
theorem buf_objs (l : List Int) : ((l.map V.int).filter (fun _ => true)).map bufObj = objs l := by
  rw [List.filter_eq_self.mpr fun _ _ => rfl, List.map_map]; rfl
theorem sp_find_rings (R : Rep σ H) (W : Wf σ) (C : Cl σ) (B : Bal σ []) (F : Full σ [] []) (U : BufOk σ) (hk60 : σ.keys.length ≤ 60)
    (q : ∀ N H' kk, Rep (σ.calm kk) H' → (∀ n ∈ σ.keys, kk n = "black") → Lk H H' → H (.loc N) = none → H' (.loc N) = some (.list ((gone σ).map V.int)) → Q (.obj (.loc N)) H') : callP tab (k + 5) "find_rings" [.obj .root] Q H := by
  refine c_fn rfl rfl ?_
  unfold b_find_rings
  walk_at "mw"
  refine comp_pure (fun _ => true) bufObj (items := σ.buffer.map V.int) (keep := some (.buf σ.bid)) ?_ ?_ ?_ ?_
  · exact srcL R.buf
  · intro it hit Q' q'; walk_at "mw"; exact q'
  · intro it hit h Q' q'
    obtain ⟨a, ha, rfl⟩ := List.mem_map.mp hit
    have hmk := U.sub _ ha
    walk_at "mw"
    exact q'
  rw [buf_objs]
  refine new_loc R _ fun N H1 R1 L1 hN e1 => ?_
  have e1' : H1 (.loc N) = some (.list (objs σ.buffer)) := by rw [e1, Hp.set_self]
  clear e1
  refine s_attr (i_list (i_nil ⟨.buf (σ.bid + 1), R1.bufN _ (by lia), i_var rfl ⟨_, p_buffer R1, ?_⟩⟩))
  have R2 := R1.clr.2
  have L2 : Lk H ((H1.set (.buf (σ.bid + 1)) (.list [])).set .root (rootO σ.clr)) := (L1.trans (Lk.other (by intro k e; cases e) _)).trans (Lk.other (by intro k e; cases e) _)
  have e2 : ((H1.set (.buf (σ.bid + 1)) (.list [])).set .root (rootO σ.clr)) (.loc N) = some (.list (objs σ.buffer)) := by rw [Hp.set_ne _ _ (by simp), Hp.set_ne _ _ (by simp)]; exact e1'
  generalize (H1.set (.buf (σ.bid + 1)) (.list [])).set .root (rootO σ.clr) = H2 at R2 L2 e2 ⊢
  rw [← unb_nil] at R2
  have it_of : ∀ {j : Nat} {it : V}, (objs σ.buffer)[j]? = some it → ∃ a, a ∈ σ.buffer ∧ it = .obj (.cell a) ∧ σ.buffer.take (j + 1) = σ.buffer.take j ++ [a] := fun {j it} hit => by
    have hj : j < σ.buffer.length := by
      have := (List.getElem?_eq_some_iff.mp hit).1; rwa [objs_len] at this
    refine ⟨σ.buffer[j], List.getElem_mem hj, ?_, by rw [List.take_add_one, List.getElem?_eq_getElem hj]; rfl⟩
    unfold objs at hit
    rw [List.getElem?_map, List.getElem?_eq_getElem hj] at hit
    simpa using hit.symm
  have keepL : ∀ {Ha Hb : Hp}, Ha (.loc N) = some (.list (objs σ.buffer)) → Lk Ha Hb → Hb (.loc N) = Ha (.loc N) := fun {Ha Hb} e L => by rw [e]; exact L N _ e
  obtain ⟨I1, hI1⟩ : ∃ I : Nat → Env → Hp → Prop, I = fun j ρ' H' => ρ' "heap" = some (.obj .root) ∧ ρ' "suspects" = some (.obj (.loc N)) ∧ Rep (σ.unb (σ.buffer.take j)) H' ∧ Lk H2 H' := ⟨_, rfl⟩
  refine s_for (i_var rfl (for_i (items := objs σ.buffer) (keep := some (.loc N)) I1 (srcL e2) (by rw [hI1]; exact ⟨rfl, rfl, R2, Lk.refl _⟩) (fun j ρ' H' h => by rw [hI1] at h; exact keepL e2 h.2.2.2) ?_ ?_))
  · intro j ρ' H3 it hit h
    rw [hI1] at h
    obtain ⟨h1, h2, R3, L3⟩ := h
    obtain ⟨a, ha, rfl, ht⟩ := it_of hit
    obtain ⟨p4, R4⟩ := R3.unb1 W (U.sub a ha)
    refine ⟨_, rfl, s_attr (i_bool (i_var rfl ⟨_, p4, s_nil (tn_next ?_)⟩))⟩
    rw [hI1]; dsimp only; rw [ht]
    exact ⟨h1, h2, R4, L3.trans (Lk.other (by intro k e; cases e) _)⟩
  intro ρ3 H3 h
  rw [hI1] at h
  obtain ⟨h1, h2, R3, L3⟩ := h
  rw [objs_len, List.take_length] at R3
  have W1 := W.unb σ.buffer
  have C1 := C.unb σ.buffer
  have sh : Shape σ (σ.unb σ.buffer) := shape_unb _
  have col1 : ∀ n ∈ σ.keys, n ∉ σ.buffer → (σ.unb σ.buffer).colour n = "black" := fun n hn hb => by
    have := U.col n hn
    rw [if_neg hb] at this; exact this
  have cal : ∀ kk, (σ.unb σ.buffer).cc (σ.unb σ.buffer).count kk = σ.calm kk := fun _ => rfl
  have hb1 : ∀ x, x ∈ σ.buffer → x ∈ (σ.unb σ.buffer).keys := U.sub
  have gone1 : gone (σ.unb σ.buffer) = gone σ := by
    unfold gone liveB; rw [sh.live]; rfl
  have cov1 : ∀ n ∈ (σ.unb σ.buffer).keys, Rch (σ.unb σ.buffer) (· ∈ σ.buffer) n ∨ Live (σ.unb σ.buffer) n := fun n hn => by
    rcases cov_of C (fun x => Iff.rfl) F n hn with q | q
    · exact .inl (sh.rch q)
    · rw [sh.live]; exact .inr q
  have bal1 : Bal (σ.unb σ.buffer) [] := fun n hn => by rw [sh.refs]; exact B n hn
  have nog : ∀ n ∈ σ.keys, (σ.unb σ.buffer).colour n ≠ "grey" := fun n hn => by
    have := U.col n hn
    show σ.colour n ≠ _
    rw [this]; split <;> decide
  generalize σ.unb σ.buffer = τ at R3 W1 C1 sh col1 cal hb1 gone1 cov1 bal1 nog
  have L23 := L2.trans L3
  have e3 := L3 N _ e2
  have hk : τ.keys = σ.keys := sh.keys
  rw [← hk] at nog col1
  have mi0 : MI τ σ.buffer [] τ.count τ.colour [] := MI.zero nog
  obtain ⟨I2, hI2⟩ : ∃ I : Nat → Env → Hp → Prop, I = fun j ρ' H' => ρ' "heap" = some (.obj .root) ∧ ρ' "suspects" = some (.obj (.loc N)) ∧ ∃ c' k', MI τ σ.buffer (σ.buffer.take j) c' k' [] ∧ Rep (τ.cc c' k') H' ∧ Lk H3 H' := ⟨_, rfl⟩
  refine s_for (i_var h2 (for_i (items := objs σ.buffer) (keep := some (.loc N)) I2 (srcL e3) (by rw [hI2]; exact ⟨h1, h2, _, _, mi0, R3, Lk.refl _⟩) (fun j ρ' H' h => by rw [hI2] at h; obtain ⟨_, _, _, _, _, _, L⟩ := h; exact keepL e3 L) ?_ ?_))
  · intro j ρ' H4 it hit h
    rw [hI2] at h
    obtain ⟨g1, g2, c', k', M4, R4, L4⟩ := h
    obtain ⟨a, ha, rfl, ht⟩ := it_of hit
    obtain ⟨m, hm⟩ := MIm.start W1 M4 (hb1 a ha) ha
    refine ⟨_, rfl, ?_⟩
    walk_at "mw"
    refine sp_mark_grey (k := k + 1) (MIm.mstep W1 C1 σ.buffer (σ.buffer.take j ++ [a])) W1 C1 (hb1 a ha) R4 hm fun m' c5 k5 H5 I5 R5 L5 => ?_
    refine s_nil (tn_next ?_)
    rw [hI2]; dsimp only; rw [ht]
    exact ⟨g1, g2, c5, k5, I5.1, R5, L4.trans L5⟩
  intro ρ4 H4 h
  rw [hI2] at h
  obtain ⟨g1, g2, c4, k4, M4, R4, L4⟩ := h
  rw [objs_len, List.take_length] at M4
  have sb0 := SB.zero C1 hb1 M4 col1
  have hG : ∀ n, (fun n => decide (n ∈ τ.keys ∧ k4 n = "grey")) n = true ↔ Rch τ (· ∈ σ.buffer) n := fun n => by
    rw [← M4.end C1 hb1 n]; simp
  have gok : GOk τ (fun n => decide (n ∈ τ.keys ∧ k4 n = "grey")) := by
    refine ⟨W1, C1, bal1, fun n hn => ?_, fun n hn x hx => ?_, fun n hn => ?_⟩
    · simp only [decide_eq_true_eq] at hn; exact hn.1
    · have h := hn
      simp only [decide_eq_true_eq] at h
      exact (hG x).mpr (.step ((hG n).mp hn) h.1 hx)
    · rcases cov1 n hn with z | z
      · exact .inl ((hG n).mpr z)
      · exact .inr z
  generalize (fun n => decide (n ∈ τ.keys ∧ k4 n = "grey")) = G at sb0 hG gok
  have L24 := L23.trans L4
  have e4 := L4 N _ e3
  obtain ⟨I3, hI3⟩ : ∃ I : Nat → Env → Hp → Prop, I = fun j ρ' H' => ρ' "heap" = some (.obj .root) ∧ ρ' "suspects" = some (.obj (.loc N)) ∧ ∃ c' k', SB τ G (σ.buffer.take j) [] c' k' [] ∧ Rep (τ.cc c' k') H' ∧ Lk H4 H' := ⟨_, rfl⟩
  refine s_for (i_var g2 (for_i (items := objs σ.buffer) (keep := some (.loc N)) I3 (srcL e4) (by rw [hI3]; exact ⟨g1, g2, _, _, sb0, R4, Lk.refl _⟩) (fun j ρ' H' h => by rw [hI3] at h; obtain ⟨_, _, _, _, _, _, L⟩ := h; exact keepL e4 L) ?_ ?_))
  · intro j ρ' H5 it hit h
    rw [hI3] at h
    obtain ⟨g1, g2, c', k', M5, R5, L5⟩ := h
    obtain ⟨a, ha, rfl, ht⟩ := it_of hit
    obtain ⟨m, hm⟩ := ScI.start gok M5 ((hG a).mpr (.root ha))
    refine ⟨_, rfl, ?_⟩
    walk_at "mw"
    refine sp_scan (k := k) (ScI.step gok (σ.buffer.take j ++ [a])) W1 C1 (hb1 a ha) R5 hm fun m' c6 k6 H6 I6 R6 L6 => ?_
    refine s_nil (tn_next ?_)
    rw [hI3]; dsimp only; rw [ht]
    exact ⟨g1, g2, c6, k6, I6.1, R6, L5.trans L6⟩
  intro ρ5 H5 h
  rw [hI3] at h
  obtain ⟨g1, g2, c5, k5, M5, R5, L5⟩ := h
  rw [objs_len, List.take_length] at M5
  obtain ⟨w1, w2, w3⟩ := M5.end gok hG
  have gi0 : GI τ σ.buffer k5 c5 k5 σ.buffer [] := GI.zero w1 w3 hb1
  have e5 := L5 N _ e4
  have L25 := L24.trans L5
  have bb := wk_bound W1 (fun g => k5 g = "white")
  have nn := wk_nn τ (fun g => k5 g = "white")
  have hbl : σ.buffer.length ≤ τ.keys.length := U.nd.length_le_of_subset hb1
  have hk60' : τ.keys.length ≤ 60 := by rw [hk]; exact hk60
  walk_at "mw"
  refine sp_gather (k := k + 1) (m := (wk τ (fun g => k5 g = "white") + σ.buffer.length).toNat) (GaI.step W1 C1 (S := σ.buffer) (k2 := k5) w1) W1 C1 R5 e5 ⟨gi0, by lia, by lia⟩ fun m6 c6 k6 f hI => ?_
  have hf : f.length ≤ τ.keys.length := hI.1.nd.length_le_of_subset fun x hx => ((hI.1.fnd x).mp hx).1
  refine ⟨by lia, fun M H6 R6 L6 hM e6 => ?_⟩
  obtain ⟨z1, z2, z3⟩ := hI.1.end gok hG M5
  rw [z2, cal] at R6
  rw [z3, gone1] at e6
  exact r_ret (q M H6 k6 R6 (fun n hn => z1 n (hk ▸ hn)) (L25.trans L6) (L25.none hM) e6)
end
end Mine
end
noncomputable section
namespace Mine
open PySem PySem.W PyProof.Rows
inductive RunT (σe : St) : Nat → St → List Task → Prop
  | done : RunT σe 0 σe []
  | step {m : Nat} {σ : St} {ts : List Task} {t : Task} (f : Fit σ) (l : ts.length ≤ 50000) (l2 : (taskStep σ t).2.length ≤ 300) (g : ∀ d, t = .deed d → Good σ 190) (r : RunT σe m (taskStep σ t).1 (ts ++ (taskStep σ t).2)) : RunT σe (m + 1) σ (ts ++ [t])
theorem RunT.inv {σe : St} {m : Nat} {σ : St} {w : List Task} (h : RunT σe m σ w) : ∀ ts t, w = ts ++ [t] → Fit σ ∧ ts.length ≤ 50000 ∧ (taskStep σ t).2.length ≤ 300 ∧ (∀ d, t = .deed d → Good σ 190) ∧ ∃ m', m' < m ∧ RunT σe m' (taskStep σ t).1 (ts ++ (taskStep σ t).2) := by
  intro ts t e
  cases h with
  | done => exact absurd e (by simp)
  | @step m σ ts' t' f l l2 g r =>
    obtain ⟨h1, h2⟩ := List.append_inj' e rfl
    cases h2; subst h1
    exact ⟨f, l, l2, g, m, Nat.lt_succ_self _, r⟩
theorem RunT.steps (σe : St) : Steps (RunT σe) := fun m σ ts t h => h.inv ts t rfl
theorem RunT.end {σe : St} {m : Nat} {σ : St} (h : RunT σe m σ []) : σ = σe := by
  generalize hw : ([] : List Task) = w at h
  cases h with
  | done => rfl
  | step => exact absurd hw (by simp)
noncomputable def St.cts (σ : St) (c : Int → Int) : St := { σ with count := c }
noncomputable def St.dsts (σ : St) (l : List Int) (v : Nat) : St := { σ with isD := fun x => if x ∈ l then true else σ.isD x, log := σ.log ++ l.map .destruct, colour := fun x => if x ∈ l then "purple" else σ.colour x, buffered := fun x => if x ∈ l then true else σ.buffered x, buffer := σ.buffer ++ l, vep := v }
section
variable {σ : St} {H : Hp} {k b : Nat} {Q : V → Hp → Prop}
theorem sp_settle_run {σe : St} {N m : Nat} {ts : List Task} (R : Rep σ H) (hN : H (.loc N) = some (.list (ts.map Task.toV))) (h : RunT σe m σ ts)
    (q : ∀ H', Rep σe H' → LkX N H H' → Q .none H') : callP tab (k + 8) "settle" [.obj .root, .obj (.loc N)] Q H :=
  sp_settle (RunT.steps σe) R hN h fun m' σ' H' hI R' L' => by
    have := hI.end
    subst this
    exact q H' R' L'
theorem sp_do_deed_run {σe : St} {m : Nat} {d : Deed} (R : Rep σ H) (h : RunT σe m σ [.deed d])
    (q : ∀ H', Rep σe H' → Lk H H' → Q .none H') : callP tab (k + 9) "do_deed" [.obj .root, d.toV] Q H :=
  sp_do_deed (RunT.steps σe) R h fun m' σ' H' hI R' L' => by
    have := hI.end
    subst this
    exact q H' R' L'
theorem Wf.cts (W : Wf σ) (c : Int → Int) : Wf (σ.cts c) := ⟨W.last, W.nkeys, W.nlog, W.nvars, W.nbuf, W.nslots, W.ref, W.ndk, W.ndv, W.nds⟩
theorem Rep.cts_cnt {c : Int → Int} (R : Rep (σ.cts c) H) (W : Wf σ) {n : Int} (hn : n ∈ σ.keys) (d : Int) : putAttr H (.obj (.cell n)) "count" (.int (c n + d)) = some (H.set (.cell n) (cellO (σ.cts (upd c n (c n + d))) n)) ∧
    Rep (σ.cts (upd c n (c n + d))) (H.set (.cell n) (cellO (σ.cts (upd c n (c n + d))) n)) := by
  refine ⟨?_, R.recd hn (W.last n hn) rfl rfl rfl rfl rfl rfl rfl rfl rfl rfl rfl fun m h => by unfold cellO St.cts; dsimp only; rw [upd_ne _ _ h]⟩
  have e := upd_self c n (c n + d)
  unfold cellO St.cts; dsimp only; rw [e]; exact put_of (R.cell n hn) (Nat.le_of_ble_eq_true rfl)
theorem int_items {j : Nat} {it : V} {l : List Int} (hit : (l.map V.int)[j]? = some it) : ∃ a, a ∈ l ∧ it = .int a ∧ l.take (j + 1) = l.take j ++ [a] ∧ j < l.length ∧ ∀ (h : j < l.length), l[j] = a := by
  have hj : j < l.length := by
    have := (List.getElem?_eq_some_iff.mp hit).1; simpa using this
  refine ⟨l[j], List.getElem_mem hj, ?_, by rw [List.take_add_one, List.getElem?_eq_getElem hj]; rfl, hj, fun _ => rfl⟩
  rw [List.getElem?_map, List.getElem?_eq_getElem hj] at hit
  simpa using hit.symm
theorem cnt_for {c : Int → Int} {l : List Int} {d : Int} {op : BOp} (hop : ∀ x (Q : V → Hp → Prop) H, Q (.int (x + d)) H → binW op (.int x) (.int 1) Q H)
    {K M : Nat} {ρ : Env} {r : List LS} {QS : PostS} (hρ : ρ "heap" = some (.obj .root)) (hρ2 : ρ "numbers" = some (.obj (.loc M))) (R : Rep (σ.cts c) H) (W : Wf σ) (hM : H (.loc M) = some (.list (l.map V.int))) (hl : ∀ m ∈ l, m ∈ σ.keys)
    (q : ∀ ρ' H', Rep (σ.cts (addK c l d)) H' → Lk H H' → ρ' "heap" = some (.obj .root) → ρ' "numbers" = some (.obj (.loc M)) → wpSs (callP tab K) r ρ' QS H') :
    wpSs (callP tab K) (.for ["number"] .plain (.var "numbers") [.augAttr (.idx (.attr (.var "heap") "cells") (.var "number")) "count" op (.int 1)] :: r) ρ QS H := by
  obtain ⟨I, hI⟩ : ∃ I : Nat → Env → Hp → Prop, I = fun j ρ' H' => ρ' "heap" = some (.obj .root) ∧ ρ' "numbers" = some (.obj (.loc M)) ∧ Rep (σ.cts (addK c (l.take j) d)) H' ∧ Lk H H' := ⟨_, rfl⟩
  refine s_for (i_var hρ2 (for_i (items := l.map V.int) (keep := some (.loc M)) I (srcL hM) (by rw [hI]; exact ⟨hρ, hρ2, by simpa [addK_nil] using R, Lk.refl _⟩) (fun j ρ' H' h => ?_) ?_ ?_))
  · rw [hI] at h
    obtain ⟨_, _, _, L⟩ := h
    show H' (.loc M) = H (.loc M)
    rw [hM]; exact L M _ hM
  · intro j ρ' H' it hit h
    rw [hI] at h
    obtain ⟨g1, g2, R', L⟩ := h
    obtain ⟨a, ha, rfl, ht, _⟩ := int_items hit
    obtain ⟨p1, R2⟩ := R'.cts_cnt W (hl a ha) d
    have ha' : a ∈ (σ.cts (addK c (l.take j) d)).keys := hl a ha
    refine ⟨_, rfl, s_aug (i_idx (i_attr (i_var g1 ⟨_, R'.r_cells, i_var rfl ⟨_, R'.i_cells ha', ⟨_, R'.c_count ha', i_int ?_⟩⟩⟩)))⟩
    refine hop _ _ _ ⟨_, p1, s_nil (tn_next ?_)⟩
    rw [hI]; dsimp only; rw [ht, addK_snoc]
    exact ⟨g1, g2, R2, L.trans (Lk.other (by intro k e; cases e) _)⟩
  · intro ρ' H' h
    rw [hI] at h
    obtain ⟨g1, g2, R', L⟩ := h
    rw [List.length_map, List.take_length] at R'
    exact q ρ' H' R' L g1 g2
theorem delA_putA {es : List (Int × Val)} {j : Int} {v : Val} (h : es.lookup j = none) : delA (putA es j v) j = es := by
  have hm : ∀ p ∈ es, p.1 ≠ j := fun p hp e => by
    have := (lk_some (es := es) (k := j)).mpr (List.mem_map.mpr ⟨p, hp, e⟩)
    rw [h] at this; simp at this
  unfold putA
  rw [h]
  simp only [Option.isSome_none, Bool.false_eq_true, if_false]
  unfold delA
  rw [List.filter_append, List.filter_eq_self.mpr fun p hp => by simp [hm p hp]]
  simp
theorem lookup_putA {es : List (Int × Val)} {j : Int} {v : Val} (h : es.lookup j = none) : (putA es j v).lookup j = some v := by
  unfold putA
  rw [h]
  simp [List.lookup_append, h]
end
end Mine
end
noncomputable section
namespace Mine
open PySem PySem.W PyProof.Rows
theorem St.eq_of {a b : St} (h1 : a.keys = b.keys) (h2 : a.sort = b.sort) (h3 : a.count = b.count) (h4 : a.slots = b.slots) (h5 : a.sep = b.sep) (h6 : a.colour = b.colour) (h7 : a.buffered = b.buffered) (h8 : a.hasD = b.hasD) (h9 : a.isD = b.isD)
    (h10 : a.vars = b.vars) (h11 : a.vep = b.vep) (h12 : a.cep = b.cep) (h13 : a.log = b.log) (h14 : a.last = b.last) (h15 : a.buffer = b.buffer) (h16 : a.bid = b.bid) (h17 : a.freed = b.freed) : a = b := by
  cases a; cases b; simp_all
section
variable {σ σ' : St} {H : Hp} {k b : Nat} {Q : V → Hp → Prop}
theorem Good.of_same (G : Good σ b) (h1 : σ'.keys = σ.keys) (h2 : σ'.sort = σ.sort) (h3 : σ'.slots = σ.slots) (h4 : σ'.vars = σ.vars) (h5 : σ'.last = σ.last) (hl : σ'.log.length ≤ 800 + b) (hu : σ'.buffer.length ≤ 200) (hb : b ≤ 200) : Good σ' b := by
  have ok : ∀ v, okV σ v → okV σ' v := fun v h => by
    cases v with
    | int _ => trivial
    | cell n => show n ∈ σ'.keys; rw [h1]; exact h
  have ir : ∀ v, isRef σ' v = isRef σ v := fun v => by
    cases v with
    | int _ => rfl
    | cell n => simp only [isRef, h1, h2]
  refine ⟨⟨fun n hn => by rw [h5]; exact G.W.last n (h1 ▸ hn), by rw [h1]; exact G.W.nkeys, by lia, by rw [h4]; exact G.W.nvars, hu, fun n hn => by rw [h3]; exact G.W.nslots n (h1 ▸ hn), fun n hn e => by rw [h3]; rw [h2] at e; exact G.W.ref n (h1 ▸ hn) e, by rw [h1]; exact G.W.ndk, by rw [h4]; exact G.W.ndv, fun n hn => by rw [h3]; exact G.W.nds n (h1 ▸ hn)⟩,
    ⟨fun p hp => ok _ (G.C.vars p (h4 ▸ hp)), fun n hn p hp => by rw [h3] at hp; exact ok _ (G.C.slots n (h1 ▸ hn) p hp), fun n hn e p hp => by rw [h3] at hp; rw [h2] at e; rw [ir]; exact G.C.nr n (h1 ▸ hn) e p hp⟩, by rw [h1]; exact G.keys, fun p hp => ?_, hl⟩
  cases p with
  | vars => show σ'.vars.length ≤ b; rw [h4]; exact G.at_ .vars trivial
  | cell n => show (σ'.slots n).length ≤ b; rw [h3]; exact G.at_ (.cell n) (by have hp' : n ∈ σ'.keys := hp; rw [h1] at hp'; exact hp')
theorem Fit.of (G : Good σ b) (hb : b ≤ 100) (hu : σ.buffer.length ≤ 150) (nb : ∀ n ∈ σ.keys, σ.buffered n = true → n ∈ σ.buffer) : Fit σ :=
  ⟨G.W, by have := G.log; lia, by have : σ.vars.length ≤ b := G.at_ .vars trivial; lia, hu, nb⟩
theorem des_run {n : Int} (G : Good σ b) (hb : b ≤ 98) (hlog : σ.log.length + 1 ≤ 800) (hu : σ.buffer.length ≤ 150) (nb : ∀ n ∈ σ.keys, σ.buffered n = true → n ∈ σ.buffer) (hn : n ∈ σ.keys) (hs : σ.sort n = "object") (hc : 0 < σ.count n) (hbn : σ.buffered n = false) (hv : σ.vars.lookup (-n) = none) :
    ∃ m v, RunT (σ.dsts [n] v) m (beginD σ n) [.deed (.unset (-n))] := by
  have G1 : Good (((σ.setIsD n).logAdd (.destruct n)).cnt n 1) b := G.of_same rfl rfl rfl rfl rfl (by simp [St.cnt, St.logAdd, St.setIsD]; lia) (by show σ.buffer.length ≤ _; lia) (by lia)
  have hl : σ.vars.length ≤ b := G.at_ .vars trivial
  have G2 : Good (beginD σ n) (b + 1) := G1.put (p := .vars) trivial (v := .cell n) hn (by lia) (fun m e => by cases e)
  have v2 : (beginD σ n).vars = putA σ.vars (-n) (.cell n) := rfl
  have ch : change (beginD σ n) (.unset (-n)) = ((beginD σ n).del .vars (-n), [.cell n]) := by
    have hlk : (beginD σ n).vars.lookup (-n) = some (.cell n) := by rw [v2]; exact lookup_putA hv
    simp only [change, hlk]
  have k2 : n ∈ ((beginD σ n).del .vars (-n)).keys := hn
  have c2 : (((beginD σ n).del .vars (-n)).cnt n (-1)).count n = σ.count n := by
    show upd (upd σ.count n (σ.count n + 1)) n _ n = _
    rw [upd_self]
    show upd σ.count n (σ.count n + 1) n + -1 = _
    rw [upd_self]; lia
  have lo : lose ((beginD σ n).del .vars (-n)) (.cell n) = ((((beginD σ n).del .vars (-n)).cnt n (-1)).buf n, []) := by
    unfold lose
    dsimp only
    rw [if_pos k2, if_pos (by rw [c2]; exact hc)]
    unfold suspect target
    rw [if_neg (by show ¬ σ.sort n = "ref"; rw [hs]; decide)]
    show (if σ.buffered n = true then _ else _, _) = _
    rw [hbn]; rfl
  have G3 : Good ((beginD σ n).del .vars (-n)) (b + 1) := G2.del (p := .vars) trivial (fun m e => by cases e)
  have fin : (((beginD σ n).del .vars (-n)).cnt n (-1)).buf n = σ.dsts [n] ((beginD σ n).vep + 1) := by
    refine St.eq_of rfl rfl ?_ rfl rfl ?_ ?_ rfl ?_ ?_ rfl rfl rfl rfl rfl rfl rfl
    · funext x
      by_cases e : x = n
      · subst e; exact c2
      · show upd (upd σ.count n _) n _ x = σ.count x
        rw [upd_ne _ _ e, upd_ne _ _ e]
    · funext x; show upd σ.colour n "purple" x = if x ∈ [n] then _ else _; simp [upd]
    · funext x; show upd σ.buffered n true x = if x ∈ [n] then _ else _; simp [upd]
    · funext x; show upd σ.isD n true x = if x ∈ [n] then _ else _; simp [upd]
    · show delA (putA σ.vars (-n) (.cell n)) (-n) = σ.vars
      exact delA_putA hv
  refine ⟨2, (beginD σ n).vep + 1, RunT.step (ts := []) (Fit.of G2 (by lia) hu nb) (by simp) ?_ ?_ ?_⟩
  · show ((change _ _).2.reverse.map Task.lose).length ≤ _
    rw [ch]; simp
  · rintro d e
    exact G2.mono (by lia)
  · show RunT _ 1 (change _ _).1 ([] ++ (change _ _).2.reverse.map Task.lose)
    rw [ch]
    refine RunT.step (ts := []) (t := .lose (.cell n)) (Fit.of G3 (by lia) hu nb) (by simp) ?_ (fun d e => by cases e) ?_
    · show (lose _ _).2.length ≤ _
      rw [lo]; simp
    · show RunT _ 0 (lose _ _).1 ([] ++ (lose _ _).2)
      rw [lo, fin]; exact .done
theorem dsts_nil : σ.dsts [] σ.vep = σ := by
  refine St.eq_of rfl rfl rfl rfl rfl ?_ ?_ rfl ?_ rfl rfl rfl ?_ rfl ?_ rfl rfl <;> simp [St.dsts]
theorem dsts_snoc (l : List Int) (n : Int) (v v' : Nat) : (σ.dsts l v).dsts [n] v' = σ.dsts (l ++ [n]) v' := by
  refine St.eq_of rfl rfl rfl rfl rfl ?_ ?_ rfl ?_ rfl rfl rfl ?_ rfl ?_ rfl rfl
  · funext x; simp only [St.dsts, List.mem_append, List.mem_singleton]; by_cases h1 : x ∈ l <;> by_cases h2 : x = n <;> simp [h1, h2]
  · funext x; simp only [St.dsts, List.mem_append, List.mem_singleton]; by_cases h1 : x ∈ l <;> by_cases h2 : x = n <;> simp [h1, h2]
  · funext x; simp only [St.dsts, List.mem_append, List.mem_singleton]; by_cases h1 : x ∈ l <;> by_cases h2 : x = n <;> simp [h1, h2]
  · simp [St.dsts]
  · simp [St.dsts]
theorem sp_run_destructors {l : List Int} {M : Nat} (R : Rep σ H) (G : Good σ b) (hb : b ≤ 98) (hM : H (.loc M) = some (.list (l.map V.int))) (hl : ∀ n ∈ l, n ∈ σ.keys) (hnd : l.Nodup) (hlog : σ.log.length + l.length ≤ 800) (hu : σ.buffer.length + l.length ≤ 150)
    (nb : ∀ n ∈ σ.keys, σ.buffered n = true → n ∈ σ.buffer) (ho : ∀ n ∈ l, σ.sort n = "object" ∧ 0 ≤ σ.count n ∧ σ.buffered n = false ∧ 1 ≤ n) (hv : ∀ p ∈ σ.vars, 0 ≤ p.1)
    (q : ∀ v H', Rep (σ.dsts l v) H' → Lk H H' → Q .none H') : callP tab (k + 9) "run_destructors" [.obj .root, .obj (.loc M)] Q H := by
  refine c_fn rfl rfl ?_
  unfold b_run_destructors
  refine cnt_for (σ := σ) (c := σ.count) (d := 1) (op := .add) (fun x Q H q => b_addi q) rfl rfl R G.W hM hl fun ρ1 H1 R1 L1 h1 h2 => ?_
  have hM1 := L1 M _ hM
  obtain ⟨I, hI⟩ : ∃ I : Nat → Env → Hp → Prop, I = fun j ρ' H' => ρ' "heap" = some (.obj .root) ∧ ρ' "numbers" = some (.obj (.loc M)) ∧ ∃ v, Rep ((σ.cts (addK σ.count l 1)).dsts (l.take j) v) H' ∧ Lk H1 H' := ⟨_, rfl⟩
  refine s_for (i_var h2 (for_i (items := l.map V.int) (keep := some (.loc M)) I (srcL hM1) (by rw [hI]; exact ⟨h1, h2, (σ.cts (addK σ.count l 1)).vep, by rw [List.take_zero, dsts_nil]; exact R1, Lk.refl _⟩) (fun j ρ' H' h => ?_) ?_ ?_))
  · rw [hI] at h
    obtain ⟨_, _, _, _, L⟩ := h
    show H' (.loc M) = H1 (.loc M)
    rw [hM1]; exact L M _ hM1
  · intro j ρ' H2 it hit h
    rw [hI] at h
    obtain ⟨g1, g2, v, R2, L2⟩ := h
    obtain ⟨a, ha, rfl, ht, hj, hja⟩ := int_items hit
    have hna : a ∉ l.take j := fun q => by
      have := List.Nodup.sublist (List.take_sublist (j + 1) l) hnd
      rw [ht] at this
      exact (List.nodup_append.mp this).2.2 a q a (by simp) rfl
    obtain ⟨o1, o2, o3, o4⟩ := ho a ha
    have htl : (l.take j).length ≤ l.length := by simp; lia
    have htl2 : (l.take j).length + 1 ≤ l.length := by simp; lia
    obtain ⟨τ, hτ⟩ : ∃ τ, τ = (σ.cts (addK σ.count l 1)).dsts (l.take j) v := ⟨_, rfl⟩
    have Gτ : Good τ b := G.of_same (by rw [hτ]; rfl) (by rw [hτ]; rfl) (by rw [hτ]; rfl) (by rw [hτ]; rfl) (by rw [hτ]; rfl) (by rw [hτ]; simp only [St.dsts, St.cts, List.length_append, List.length_map]; lia) (by rw [hτ]; simp only [St.dsts, St.cts, List.length_append]; lia) (by lia)
    have haτ : a ∈ τ.keys := by rw [hτ]; exact hl a ha
    have cτ : 0 < τ.count a := by
      have : τ.count a = addK σ.count l 1 a := by rw [hτ]; rfl
      rw [this]; unfold addK
      have : 0 < List.count a l := List.count_pos_iff.mpr ha
      lia
    have bτ : τ.buffered a = false := by rw [hτ]; simp only [St.dsts, St.cts, hna, if_false]; exact o3
    have uτ : τ.buffer.length ≤ 150 := by rw [hτ]; simp only [St.dsts, St.cts, List.length_append]; lia
    have nbτ : ∀ n ∈ τ.keys, τ.buffered n = true → n ∈ τ.buffer := fun n hn e => by
      rw [hτ] at hn e ⊢
      simp only [St.dsts, St.cts] at hn e ⊢
      by_cases z : n ∈ l.take j
      · exact List.mem_append_right _ z
      · rw [if_neg z] at e; exact List.mem_append_left _ (nb n hn e)
    have vτ : τ.vars.lookup (-a) = none := by
      have e : τ.vars = σ.vars := by rw [hτ]; rfl
      rw [e]
      cases z : σ.vars.lookup (-a) with
      | none => rfl
      | some u =>
        have := hv _ (mem_of_lk z)
        simp only at this; lia
    obtain ⟨m, v', run⟩ := des_run Gτ hb (by rw [hτ]; simp only [St.dsts, St.cts, List.length_append, List.length_map]; lia) uτ nbτ haτ (by rw [hτ]; exact o1) cτ bτ vτ
    have e2 : τ.dsts [a] v' = (σ.cts (addK σ.count l 1)).dsts (l.take (j + 1)) v' := by rw [hτ, dsts_snoc, ht]
    rw [e2] at run
    rw [← hτ] at R2
    refine ⟨_, rfl, ?_⟩
    walk_at "mw"
    refine sp_begin_destructor (k := k + 5) R2 (Fit.of Gτ (by lia) uτ nbτ) haτ fun N H3 R3 L3 hN e3 => ?_
    walk_at "mw"
    refine sp_settle_run (k := k) R3 e3 run fun H4 R4 L4 => ?_
    refine s_nil (tn_next ?_)
    rw [hI]
    exact ⟨g1, g2, v', R4, L2.trans (LkX.back L3 hN L4)⟩
  intro ρ2 H2 h
  rw [hI] at h
  obtain ⟨g1, g2, v, R2, L2⟩ := h
  rw [List.length_map, List.take_length] at R2
  have hM2 := L2 M _ hM1
  have R2' : Rep ((σ.dsts l v).cts (addK σ.count l 1)) H2 := R2
  have Wd : Wf (σ.dsts l v) := (G.of_same (σ' := σ.dsts l v) rfl rfl rfl rfl rfl (by simp only [St.dsts, List.length_append, List.length_map]; lia) (by simp only [St.dsts, List.length_append]; lia) (by lia)).W
  refine cnt_for (σ := σ.dsts l v) (c := addK σ.count l 1) (d := -1) (op := .sub) (fun x Q H q => b_subi q) g1 g2 R2' Wd hM2 hl fun ρ3 H3 R3 L3 _ _ => ?_
  refine s_nil (r_next ?_)
  have e : addK (addK σ.count l 1) l (-1) = (σ.dsts l v).count := by
    funext x; simp only [addK, St.dsts]; lia
  rw [e] at R3
  exact q v H3 R3 ((L1.trans L2).trans L3)
end
end Mine
end
noncomputable section
namespace Mine
open PySem PySem.W PyProof.Rows
noncomputable def cntD (l acc : List Int) : List (Int × V) := l.map fun n => (n, V.int (acc.count n : Int))
theorem hasK_cntD {l acc : List Int} {c : Int} : hasK (cntD l acc) c = decide (c ∈ l) := by
  unfold hasK cntD
  rw [List.any_map, Bool.eq_iff_iff]
  simp
theorem getK_cntD {l acc : List Int} {c : Int} (h : c ∈ l) : getK (cntD l acc) c = some (.int (acc.count c : Int)) := by
  unfold getK cntD
  induction l with
  | nil => cases h
  | cons a r ih =>
    rw [List.map_cons, List.find?_cons]
    by_cases e : a = c
    · subst e; simp
    · have h1 : (a == c) = false := by simpa using e
      have hr : c ∈ r := by
        rcases List.mem_cons.mp h with q | q
        · exact absurd q.symm e
        · exact q
      simp only [h1]
      exact ih hr
theorem cntD_out {l acc : List Int} {c : Int} (h : c ∉ l) : cntD l (acc ++ [c]) = cntD l acc := by
  unfold cntD
  refine List.map_congr_left fun n hn => ?_
  have : n ≠ c := fun e => h (e ▸ hn)
  have h0 : List.count n [c] = 0 := List.count_eq_zero.mpr (by simpa using this)
  rw [List.count_append, h0]; rfl
theorem putK_cntD {l acc : List Int} {c : Int} (h : c ∈ l) : putK (cntD l acc) c (.int ((acc.count c : Int) + 1)) = cntD l (acc ++ [c]) := by
  unfold putK
  rw [hasK_cntD, if_pos (by simpa using h)]
  unfold cntD
  rw [List.map_map]
  refine List.map_congr_left fun n hn => ?_
  simp only [Function.comp]
  by_cases e : n = c
  · subst e; simp
  · have h0 : List.count n [c] = 0 := List.count_eq_zero.mpr (by simpa using e)
    rw [if_neg e, List.count_append, h0]; rfl
theorem putK_init {l : List Int} {c : Int} (h : c ∉ l) : putK (cntD l []) c (.int 0) = cntD (l ++ [c]) [] := by
  unfold putK
  rw [hasK_cntD, if_neg (by simpa using h)]
  simp [cntD]
section
variable {σ : St} {H : Hp} {k b : Nat} {Q : V → Hp → Prop}
theorem init_for {D : String} (hD : D ≠ "number") {K N : Nat} {items : List Int} {keep : Option Id} {v : V} {ρ : Env} {r : List LS} {QS : PostS} (hs : srcOf .plain H v = some (items.map V.int, keep)) (hN : H (.loc N) = some (.dict 0 [])) (hnd : items.Nodup) (hlen : items.length ≤ 50000) (hk : ∀ i, keep = some i → i ≠ .loc N) (hρ : ρ D = some (.obj (.loc N)))
    (q : ∀ ρ' H', H' = H.set (.loc N) (.dict items.length (cntD items [])) → (∀ x, x ≠ "number" → ρ' x = ρ x) → wpSs (callP tab K) r ρ' QS H') :
    ForI (callP tab K) ["number"] .plain [.assignIdx (.var D) (.var "number") (.int 0)] r ρ QS v H := by
  obtain ⟨I, hI0⟩ : ∃ I : Nat → Env → Hp → Prop, I = fun j ρ' H' => (∀ x, x ≠ "number" → ρ' x = ρ x) ∧ H' = H.set (.loc N) (.dict (items.take j).length (cntD (items.take j) [])) := ⟨_, rfl⟩
  refine for_i I hs ?_ ?_ ?_ ?_
  · rw [hI0]
    refine ⟨fun _ _ => rfl, ?_⟩
    funext i; rw [Hp.set_apply]; split
    · rename_i h; subst h; exact hN
    · rfl
  · intro j ρ' H' h
    rw [hI0] at h
    obtain ⟨_, rfl⟩ := h
    cases keep with
    | none => trivial
    | some i => exact Hp.set_ne _ _ (hk i rfl)
  · intro j ρ' H' it hit h
    rw [hI0] at h
    obtain ⟨hx, rfl⟩ := h
    obtain ⟨a, ha, rfl, ht, hj, hja⟩ := int_items hit
    have hna : a ∉ items.take j := fun q => by
      have := List.Nodup.sublist (List.take_sublist (j + 1) items) hnd
      rw [ht] at this
      exact (List.nodup_append.mp this).2.2 a q a (by simp) rfl
    have htl : (items.take j).length ≤ items.length := by simp; lia
    refine ⟨_, rfl, ?_⟩
    have hD' : (ρ'.upd "number" (.int a)) D = some (.obj (.loc N)) := by unfold Env.upd; rw [if_neg hD, hx D hD]; exact hρ
    refine s_idx (i_int (i_var hD' (i_var rfl ⟨(H.set (.loc N) (.dict (items.take (j + 1)).length (cntD (items.take (j + 1)) []))), ?_, ?_⟩)))
    · rw [puti_set (Hp.set_self _ _ _) (putK_init hna) (by rw [cntD, List.length_map, List.length_append, List.length_singleton]; unfold LIM; lia), ht, Hp.set_set, hasK_cntD, decide_eq_false hna, List.length_append]; rfl
    · refine s_nil (tn_next ?_)
      rw [hI0]
      exact ⟨fun x hx2 => (Env.ne hx2).trans (hx x hx2), rfl⟩
  · intro ρ' H' h
    rw [hI0] at h
    obtain ⟨hx, rfl⟩ := h
    refine q ρ' _ ?_ hx
    rw [List.length_map, List.take_length]
theorem new_dict (R : Rep σ H) (q : ∀ N H', Rep σ H' → Lk H H' → H (.loc N) = none → H' (.loc N) = some (.dict 0 []) → Q (.obj (.loc N)) H') : newO (.dict 0 []) Q H := by
  obtain ⟨N, hN⟩ := R.free
  exact ⟨.loc N, hN, q N _ (R.loc N _) (Lk.loc hN _) hN (Hp.set_self _ _ _)⟩
theorem sp_still_held {l : List Int} {M : Nat} (R : Rep σ H) (W : Wf σ) (C : Cl σ) (hM : H (.loc M) = some (.list (l.map V.int))) (hl : ∀ n ∈ l, n ∈ σ.keys) (hnd : l.Nodup) (hlen : l.length ≤ 200)
    (hc : ∀ n ∈ l, σ.count n ≤ ((l.flatMap (kids σ)).count n : Int))
    (q : ∀ N H', Rep σ H' → Lk H H' → H' (.loc N) = some (.dict 0 []) → Q (.obj (.loc N)) H') : callP tab (k + 3) "still_held" [.obj .root, .obj (.loc M)] Q H := by
  refine c_fn rfl rfl ?_
  unfold b_still_held
  refine s_assign (i_dict (new_dict R fun N H1 R1 L1 hN e1 => ?_))
  have hM1 := L1 M _ hM
  have hNM : N ≠ M := fun e => by subst e; rw [hM] at hN; cases hN
  walk_at "mw"
  refine init_for (D := "inside") (items := l) (keep := some (.loc M)) (by decide) (srcL hM1) e1 hnd (by lia) (fun i e => by cases e; simpa using Ne.symm hNM) rfl fun ρ2 H2 e2 hρ2 => ?_
  have R2 : Rep σ H2 := e2 ▸ R1.loc N _
  have L2 : LkX N H1 H2 := e2 ▸ LkX.set N H1 _
  have d2 : H2 (.loc N) = some (.dict l.length (cntD l [])) := by rw [e2, Hp.set_self]
  clear e2
  have hM2 := L2 M _ (Ne.symm hNM) hM1
  have b1 : ρ2 "heap" = some (.obj .root) := (hρ2 _ (by decide)).trans rfl
  have b2 : ρ2 "numbers" = some (.obj (.loc M)) := (hρ2 _ (by decide)).trans rfl
  have b3 : ρ2 "inside" = some (.obj (.loc N)) := (hρ2 _ (by decide)).trans rfl
  clear hρ2
  refine s_for (i_var b2 ?_)
  obtain ⟨I, hI0⟩ : ∃ I : Nat → Env → Hp → Prop, I = fun j ρ' H' => ρ' "heap" = some (.obj .root) ∧ ρ' "numbers" = some (.obj (.loc M)) ∧ ρ' "inside" = some (.obj (.loc N)) ∧ Rep σ H' ∧ LkX N H2 H' ∧ ∃ ep, H' (.loc N) = some (.dict ep (cntD l ((l.take j).flatMap (kids σ)))) := ⟨_, rfl⟩
  refine for_i (items := l.map V.int) (keep := some (.loc M)) I (srcL hM2) (by rw [hI0]; exact ⟨b1, b2, b3, R2, LkX.refl _ _, _, d2⟩) ?_ ?_ ?_
  · intro j ρ' H' h
    rw [hI0] at h
    obtain ⟨_, _, _, _, L, _⟩ := h
    show H' (.loc M) = H2 (.loc M)
    rw [hM2]; exact L M _ (Ne.symm hNM) hM2
  · intro j ρ' H3 it hit h
    rw [hI0] at h
    obtain ⟨g1, g2, g3, R3, L3, ep, d3⟩ := h
    obtain ⟨a, ha, rfl, ht, hj, hja⟩ := int_items hit
    have hak := hl a ha
    have hnext : ∀ ρ5 H5 ep, ρ5 "heap" = some (.obj .root) → ρ5 "numbers" = some (.obj (.loc M)) → ρ5 "inside" = some (.obj (.loc N)) → Rep σ H5 → LkX N H2 H5 → H5 (.loc N) = some (.dict ep (cntD l ((l.take j).flatMap (kids σ) ++ kids σ a))) → I (j + 1) ρ5 H5 := fun ρ5 H5 ep x1 x2 x3 x4 x5 x6 => by
      rw [hI0]; dsimp only; rw [ht, List.flatMap_append]; exact ⟨x1, x2, x3, x4, x5, ep, by simpa using x6⟩
    refine ⟨_, rfl, ?_⟩
    walk_at "mw"
    refine sp_children (k := k) R3 W hak (fun m hm => kids_mem C hak hm) fun P H4 R4 L4 hP e4 => ?_
    have hNP : N ≠ P := fun e => by subst e; rw [d3] at hP; cases hP
    have d4 := L4 N _ d3
    obtain ⟨I2, hI2⟩ : ∃ I : Nat → Env → Hp → Prop, I = fun i ρ' H' => ρ' "heap" = some (.obj .root) ∧ ρ' "numbers" = some (.obj (.loc M)) ∧ ρ' "inside" = some (.obj (.loc N)) ∧ Rep σ H' ∧ LkX N H4 H' ∧ ∃ ep, H' (.loc N) = some (.dict ep (cntD l ((l.take j).flatMap (kids σ) ++ (kids σ a).take i))) := ⟨_, rfl⟩
    refine for_i (items := objs (kids σ a)) (keep := some (.loc P)) I2 (srcL e4) (by rw [hI2]; exact ⟨g1, g2, g3, R4, LkX.refl _ _, ep, by simpa using d4⟩) ?_ ?_ ?_
    · intro i ρ' H' h
      rw [hI2] at h
      obtain ⟨_, _, _, _, L, _⟩ := h
      show H' (.loc P) = H4 (.loc P)
      rw [e4]; exact L P _ (Ne.symm hNP) e4
    · intro i ρ5 H5 it hit h
      rw [hI2] at h
      obtain ⟨g1, g2, g3, R5, L5, ep, d5⟩ := h
      have hi : i < (kids σ a).length := by
        have := (List.getElem?_eq_some_iff.mp hit).1; simpa [objs] using this
      have hit' : it = .obj (.cell (kids σ a)[i]) := by
        unfold objs at hit
        rw [List.getElem?_map, List.getElem?_eq_getElem hi] at hit
        simpa using hit.symm
      have hmk : (kids σ a)[i] ∈ σ.keys := kids_mem C hak (List.getElem_mem hi)
      have hti : (kids σ a).take (i + 1) = (kids σ a).take i ++ [(kids σ a)[i]] := by rw [List.take_add_one, List.getElem?_eq_getElem hi]; rfl
      have hnext2 : ∀ ρ6 H6 ep, ρ6 "heap" = some (.obj .root) → ρ6 "numbers" = some (.obj (.loc M)) → ρ6 "inside" = some (.obj (.loc N)) → Rep σ H6 → LkX N H4 H6 → H6 (.loc N) = some (.dict ep (cntD l (((l.take j).flatMap (kids σ) ++ (kids σ a).take i) ++ [(kids σ a)[i]]))) → I2 (i + 1) ρ6 H6 := fun ρ6 H6 ep x1 x2 x3 x4 x5 x6 => by
        rw [hI2]; dsimp only; rw [hti, ← List.append_assoc]; exact ⟨x1, x2, x3, x4, x5, ep, x6⟩
      generalize (kids σ a)[i] = c at hit' hmk hnext2
      generalize (l.take j).flatMap (kids σ) ++ (kids σ a).take i = acc at d5 hnext2
      subst hit'
      refine ⟨_, rfl, ?_⟩
      walk_at "mw"
      by_cases hcl2 : c ∈ l
      · refine k_inD (t := true) d5 (by rw [hasK_cntD]; simp [hcl2]) (t_t rfl ?_)
        refine s_augIdx (i_var g3 (i_attr (i_var rfl ⟨_, R5.c_number hmk, ⟨((acc.count c : Nat) : Int), idx_of d5 (getK_cntD hcl2), i_int (b_addi ⟨H5.set (.loc N) (.dict (if hasK (cntD l acc) c then ep else ep + 1) (cntD l (acc ++ [c]))), ?_, ?_⟩)⟩⟩)))
        · exact puti_set d5 (putK_cntD hcl2) (by rw [cntD, List.length_map]; unfold LIM; lia)
        · exact s_nil (s_seq (s_nil (tn_next (hnext2 _ _ _ g1 g2 g3 (R5.loc _ _) (L5.trans (LkX.set _ _ _)) (Hp.set_self _ _ _)))))
      · exact k_inD (t := false) d5 (by rw [hasK_cntD]; simp [hcl2]) (t_f rfl (s_nil (s_seq (s_nil (tn_next (hnext2 _ _ ep g1 g2 g3 R5 L5 (by rw [cntD_out hcl2]; exact d5)))))))
    · intro ρ5 H5 h
      rw [hI2] at h
      obtain ⟨g1, g2, g3, R5, L5, ep, d5⟩ := h
      rw [objs_len, List.take_length] at d5
      exact s_nil (tn_next (hnext ρ5 H5 ep g1 g2 g3 R5 ((L3.trans L4.x).trans L5) d5))
  intro ρ3 H3 h
  rw [hI0] at h
  obtain ⟨g1, g2, g3, R3, L3, ep, d3⟩ := h
  rw [List.length_map, List.take_length] at d3
  have hM3 := L3 M _ (Ne.symm hNM) hM2
  refine s_assign (i_dict (new_dict R3 fun S H4 R4 L4 hS e4 => ?_))
  have hM4 := L4 M _ hM3
  have d4 := L4 N _ d3
  refine s_assign (i_comp (i_var g2 ?_))
  refine comp_pure (fun _ => false) id (items := l.map V.int) (keep := some (.loc M)) ?_ ?_ ?_ ?_
  · exact srcL hM4
  · intro it hit Q' q'
    obtain ⟨a, ha, rfl⟩ := List.mem_map.mp hit
    have hak := hl a ha
    have : ¬ (σ.count a > (((l.flatMap (kids σ)).count a : Nat) : Int)) := by have := hc a ha; lia
    walk_at "mw"
    exact ⟨.int ((l.flatMap (kids σ)).count a : Nat), idx_of d4 (getK_cntD ha), k_gt (t := false) (by simpa using this) (t_f rfl q')⟩
  · intro it hit h; cases h
  have : ((l.map V.int).filter (fun _ => false)).map id = [] := by simp
  rw [this]
  refine new_loc R4 [] fun P H5 R5 L5 hP e5 => ?_
  have e5' : H5 (.loc P) = some (.list []) := by rw [e5, Hp.set_self]
  refine s_while (fun n ρ' H' => ρ' "waiting" = some (.obj (.loc P)) ∧ ρ' "staying" = some (.obj (.loc S)) ∧ H' = H5) 0 ⟨rfl, rfl, rfl⟩ ?_
  rintro n ρ' H' ⟨a1, a2, rfl⟩
  refine i_var a1 (t_f (truL e5') (s_ret (i_var a2 (r_ret ?_))))
  exact q S _ R5 (LkX.back L1 hN ((L2.trans L3).trans (L4.trans L5).x)) (L5 S _ e4)
end
end Mine
end
noncomputable section
namespace Mine
open PySem PySem.W PyProof.Rows
structure BufE (σ : St) : Prop where
  mem : ∀ n ∈ σ.keys, σ.buffered n = decide (n ∈ σ.buffer)
  nd : σ.buffer.Nodup
  sub : ∀ n ∈ σ.buffer, n ∈ σ.keys
theorem BufOk.e {σ : St} (u : BufOk σ) : BufE σ := ⟨u.mem, u.nd, u.sub⟩
section
variable {σ : St} {H : Hp} {k b : Nat} {Q : V → Hp → Prop}
theorem map_id_ints (l : List Int) : ((l.map V.int).filter (fun _ => true)).map id = l.map V.int := by simp
theorem sp_without_held {l : List Int} {M : Nat} (R : Rep σ H) (W : Wf σ) (C : Cl σ) (hM : H (.loc M) = some (.list (l.map V.int))) (hl : ∀ n ∈ l, n ∈ σ.keys) (hnd : l.Nodup) (hlen : l.length ≤ 200)
    (hc : ∀ n ∈ l, σ.count n ≤ ((l.flatMap (kids σ)).count n : Int))
    (q : ∀ N H', Rep σ H' → Lk H H' → H (.loc N) = none → H' (.loc N) = some (.list (l.map V.int)) → Q (.obj (.loc N)) H') : callP tab (k + 4) "without_held" [.obj .root, .obj (.loc M)] Q H := by
  refine c_fn rfl rfl ?_
  unfold b_without_held
  walk_at "mw"
  refine comp_pure (fun _ => true) id (items := l.map V.int) (keep := some (.loc M)) ?_ ?_ ?_ ?_
  · exact srcL hM
  · intro it hit Q' q'
    obtain ⟨a, ha, rfl⟩ := List.mem_map.mp hit
    have hak := hl a ha
    walk_at "mw"
    exact k_inD (t := true) R.cells (by rw [hasK_keys]; simp [hak]) (t_t rfl (i_c0 q'))
  · intro it hit h Q' q'
    obtain ⟨a, ha, rfl⟩ := List.mem_map.mp hit
    walk_at "mw"
    exact q'
  rw [map_id_ints]
  refine new_loc R _ fun N H1 R1 L1 hN e1 => ?_
  have e1' : H1 (.loc N) = some (.list (l.map V.int)) := by rw [e1, Hp.set_self]
  clear e1
  walk_at "mw"
  refine sp_still_held (k := k) R1 W C e1' hl hnd hlen hc fun S H2 R2 L2 e2 => ?_
  have e2' := L2 N _ e1'
  walk_at "mw"
  refine comp_pure (fun _ => true) id (items := l.map V.int) (keep := some (.loc N)) ?_ ?_ ?_ ?_
  · exact srcL e2'
  · intro it hit Q' q'
    obtain ⟨a, ha, rfl⟩ := List.mem_map.mp hit
    walk_at "mw"
    exact k_ninD (t := true) e2 rfl (t_t rfl (i_c0 q'))
  · intro it hit h Q' q'
    obtain ⟨a, ha, rfl⟩ := List.mem_map.mp hit
    walk_at "mw"
    exact q'
  rw [map_id_ints]
  refine new_loc R2 _ fun P H3 R3 L3 hP e3 => r_ret ?_
  exact q P H3 R3 ((L1.trans L2).trans L3) ((L1.trans L2).none hP) (by rw [e3, Hp.set_self])
theorem Wf.freeC (W : Wf σ) (n : Int) (hl : σ.log.length + 1 ≤ 1000) : Wf (σ.freeC n) := by
  have sub : ∀ m ∈ (σ.freeC n).keys, m ∈ σ.keys := fun m hm => (List.mem_filter.mp hm).1
  refine ⟨fun m hm => W.last m (sub m hm), Nat.le_trans (List.length_filter_le _ _) W.nkeys, by simpa [St.freeC] using hl, W.nvars, ?_, fun m hm => W.nslots m (sub m hm), fun m hm => W.ref m (sub m hm), filter_nd W.ndk _, W.ndv, fun m hm => W.nds m (sub m hm)⟩
  show (if σ.buffered n = true then σ.buffer.erase n else σ.buffer).length ≤ 200
  have := W.nbuf
  split
  · exact Nat.le_trans (List.length_erase_le) this
  · exact this
theorem erase_mem {l : List Int} (h : l.Nodup) {n m : Int} : m ∈ l.erase n ↔ m ≠ n ∧ m ∈ l := List.Nodup.mem_erase_iff h
theorem freeC_buffer (u : BufE σ) {n : Int} (hn : n ∈ σ.keys) : (σ.freeC n).buffer = σ.buffer.erase n := by
  show (if σ.buffered n = true then σ.buffer.erase n else σ.buffer) = _
  rw [u.mem n hn]
  by_cases z : n ∈ σ.buffer
  · simp [z]
  · simp [z, List.erase_of_not_mem z]
theorem BufE.freeC (u : BufE σ) {n : Int} (hn : n ∈ σ.keys) : BufE (σ.freeC n) := by
  have e := freeC_buffer u hn
  refine ⟨fun m hm => ?_, by rw [e]; exact u.nd.erase n, fun m hm => ?_⟩
  · obtain ⟨a, b⟩ := List.mem_filter.mp hm
    have b' : m ≠ n := by simpa using b
    show σ.buffered m = _
    rw [u.mem m a, e]
    simp [erase_mem u.nd, b']
  · rw [e, erase_mem u.nd] at hm
    exact List.mem_filter.mpr ⟨u.sub m hm.2, by simpa using hm.1⟩
theorem Fit.freeC (F : Fit σ) (u : BufE σ) {n : Int} (hn : n ∈ σ.keys) (hl : σ.log.length + 1 ≤ 900) : Fit (σ.freeC n) := by
  have e := freeC_buffer u hn
  refine ⟨F.W.freeC n (by lia), by simpa [St.freeC] using hl, F.vars, ?_, fun m hm hb => ?_⟩
  · rw [e]; exact Nat.le_trans (List.length_erase_le) F.buf
  · have := (u.freeC hn).mem m hm
    rw [hb] at this; simpa using this.symm
structure FreeF (σ : St) (l : List Int) (σ' : St) : Prop where
  fit : Fit σ'
  bufe : BufE σ'
  keys : σ'.keys = σ.keys.filter (fun m => decide (m ∉ l))
  slots : σ'.slots = σ.slots
  sort : σ'.sort = σ.sort
  vars : σ'.vars = σ.vars
  count : σ'.count = σ.count
  hasD : σ'.hasD = σ.hasD
  isD : σ'.isD = σ.isD
  colour : σ'.colour = σ.colour
  last : σ'.last = σ.last
  log : σ'.log = σ.log ++ l.map .free
  freed : σ'.freed = σ.freed + l.length
  buf : ∀ m, m ∈ σ'.buffer ↔ m ∈ σ.buffer ∧ m ∉ l
theorem FreeF.fold (F : Fit σ) (u : BufE σ) : ∀ (l : List Int), l.Nodup → (∀ n ∈ l, n ∈ σ.keys) → σ.log.length + l.length ≤ 900 → FreeF σ l (l.foldl St.freeC σ) := by
  intro l
  induction l generalizing σ with
  | nil =>
    intro _ _ _
    exact ⟨F, u, (List.filter_eq_self.mpr fun _ _ => by simp).symm, rfl, rfl, rfl, rfl, rfl, rfl, rfl, rfl, by simp, by simp, by simp⟩
  | cons a r ih =>
    intro hnd hk hl
    rw [List.nodup_cons] at hnd
    rw [List.length_cons] at hl
    have ha := hk a (List.mem_cons_self ..)
    have F1 := F.freeC u ha (by lia)
    have u1 := u.freeC ha
    have h := ih F1 u1 hnd.2 (fun n hn => List.mem_filter.mpr ⟨hk n (List.mem_cons_of_mem _ hn), by
      have : n ≠ a := fun e => hnd.1 (e ▸ hn)
      simpa using this⟩) (by simp only [St.freeC, List.length_append, List.length_singleton]; lia)
    rw [List.foldl_cons]
    refine ⟨h.fit, h.bufe, ?_, h.slots, h.sort, h.vars, h.count, h.hasD, h.isD, h.colour, h.last, ?_, ?_, fun m => ?_⟩
    · rw [h.keys]
      show (σ.keys.filter (fun m => decide (m ≠ a))).filter _ = _
      rw [List.filter_filter]
      refine List.filter_congr fun x hx => ?_
      rw [Bool.eq_iff_iff]
      simp only [Bool.and_eq_true, decide_eq_true_eq, List.mem_cons, not_or]
      exact And.comm
    · rw [h.log]; simp [St.freeC]
    · rw [h.freed]; simp only [St.freeC, List.length_cons]; lia
    · rw [h.buf, freeC_buffer u ha, erase_mem u.nd, List.mem_cons, not_or]
      constructor
      · rintro ⟨⟨a1, a2⟩, a3⟩; exact ⟨a2, a1, a3⟩
      · rintro ⟨a2, a1, a3⟩; exact ⟨⟨a1, a2⟩, a3⟩
theorem flat_take_len {l : List Int} (W : Wf σ) (hl : ∀ n ∈ l, n ∈ σ.keys) : (l.flatMap (hvals σ)).length ≤ 200 * l.length := by
  induction l with
  | nil => simp
  | cons a r ih =>
    rw [List.flatMap_cons, List.length_append, List.length_cons]
    have h1 : (hvals σ a).length ≤ 200 := by unfold hvals; rw [List.length_map]; exact W.nslots a (hl a (List.mem_cons_self ..))
    have h2 := ih fun n hn => hl n (List.mem_cons_of_mem _ hn)
    lia
theorem sp_free_all {l : List Int} {M m : Nat} {σe : St} (R : Rep σ H) (F : Fit σ) (u : BufE σ) (hM : H (.loc M) = some (.list (l.map V.int))) (hl : ∀ n ∈ l, n ∈ σ.keys) (hnd : l.Nodup) (hlen : l.length ≤ 200) (hlog : σ.log.length + l.length ≤ 900)
    (run : RunT σe m (l.foldl St.freeC σ) ((l.flatMap (hvals σ)).reverse.map .lose))
    (q : ∀ H', Rep σe H' → Lk H H' → Q .none H') : callP tab (k + 9) "free_all" [.obj .root, .obj (.loc M)] Q H := by
  refine c_fn rfl rfl ?_
  unfold b_free_all
  walk_at "mw"
  refine new_loc R _ fun N H1 R1 L1 hN e1 => ?_
  have e1' : H1 (.loc N) = some (.list (([] : List Val).map Val.toV)) := by rw [e1, Hp.set_self]; rfl
  clear e1
  have hM1 := L1 M _ hM
  have hNM : N ≠ M := fun e => by subst e; rw [hM] at hN; cases hN
  walk_at "mw"
  obtain ⟨I, hI⟩ : ∃ I : Nat → Env → Hp → Prop, I = fun j ρ' H' => ρ' "heap" = some (.obj .root) ∧ ρ' "losses" = some (.obj (.loc N)) ∧ Rep ((l.take j).foldl St.freeC σ) H' ∧ LkX N H1 H' ∧ H' (.loc N) = some (.list (((l.take j).flatMap (hvals σ)).map Val.toV)) := ⟨_, rfl⟩
  refine for_i (items := l.map V.int) (keep := some (.loc M)) I (srcL hM1) (by rw [hI]; exact ⟨rfl, rfl, by simpa using R1, LkX.refl _ _, by simpa using e1'⟩) (fun j ρ' H' h => ?_) ?_ ?_
  · rw [hI] at h
    obtain ⟨_, _, _, L, _⟩ := h
    show H' (.loc M) = H1 (.loc M)
    rw [hM1]; exact L M _ (Ne.symm hNM) hM1
  · intro j ρ' H2 it hit h
    rw [hI] at h
    obtain ⟨g1, g2, R2, L2, e2⟩ := h
    obtain ⟨a, ha, rfl, ht, hj, hja⟩ := int_items hit
    have htl : (l.take j).length ≤ l.length := by simp; lia
    have hsub : ∀ n ∈ l.take j, n ∈ l := fun n hn => (List.take_sublist j l).subset hn
    have hna : a ∉ l.take j := fun q => by
      have := List.Nodup.sublist (List.take_sublist (j + 1) l) hnd
      rw [ht] at this
      exact (List.nodup_append.mp this).2.2 a q a (by simp) rfl
    have FF := FreeF.fold F u (l.take j) (List.Nodup.sublist (List.take_sublist j l) hnd) (fun n hn => hl n (hsub n hn)) (by lia)
    have hak : a ∈ ((l.take j).foldl St.freeC σ).keys := by rw [FF.keys]; exact List.mem_filter.mpr ⟨hl a ha, by simpa using hna⟩
    have hv : hvals ((l.take j).foldl St.freeC σ) a = hvals σ a := by unfold hvals; rw [FF.slots]
    have hfl := flat_take_len F.W (l := l.take j) fun n hn => hl n (hsub n hn)
    have hva : (hvals σ a).length ≤ 200 := by unfold hvals; rw [List.length_map]; exact F.W.nslots a (hl a ha)
    have hfold : (l.take (j + 1)).foldl St.freeC σ = ((l.take j).foldl St.freeC σ).freeC a := by rw [ht, List.foldl_append]; rfl
    have hflat : (l.take (j + 1)).flatMap (hvals σ) = (l.take j).flatMap (hvals σ) ++ hvals σ a := by rw [ht, List.flatMap_append]; simp
    have hnext : ∀ ρ5 H5, ρ5 "heap" = some (.obj .root) → ρ5 "losses" = some (.obj (.loc N)) → Rep (((l.take j).foldl St.freeC σ).freeC a) H5 → LkX N H1 H5 → H5 (.loc N) = some (.list (((l.take j).flatMap (hvals σ) ++ hvals σ a).map Val.toV)) → I (j + 1) ρ5 H5 := fun ρ5 H5 x1 x2 x3 x4 x5 => by
      rw [hI]; dsimp only; rw [hfold, hflat]; exact ⟨x1, x2, x3, x4, x5⟩
    generalize (l.take j).foldl St.freeC σ = τ at R2 FF hak hv hnext
    generalize (l.take j).flatMap (hvals σ) = acc at e2 hfl hnext
    refine ⟨_, rfl, s_expr (i_methL (i := .loc N) (fun _ p => i_var g2 p) e2 rfl ?_)⟩
    walk_at "mw"
    refine sp_free_cell (k := k + 6) R2 FF.fit hak fun P H3 R3 L3 hP e3 => ?_
    have e3' := L3 N _ e2
    rw [hv] at e3
    refine i_nil (l_ext e3' e3 (by simp only [List.length_map]; unfold LIM; lia) (s_nil (tn_next ?_)))
    refine hnext _ _ g1 g2 (R3.loc _ _) ((L2.trans L3.x).trans (LkX.set _ _ _)) ?_
    rw [Hp.set_self, List.map_append]
  intro ρ2 H2 h
  rw [hI] at h
  obtain ⟨g1, g2, R2, L2, e2⟩ := h
  rw [List.length_map, List.take_length] at R2 e2
  walk_at "mw"
  refine sp_losing (k := k + 7) R2 e2 fun P H3 R3 L3 hP e3 => ?_
  walk_at "mw"
  refine sp_settle_run (k := k) R3 e3 run fun H4 R4 L4 => ?_
  refine s_nil (r_next ?_)
  exact q H4 R4 (LkX.back L1 hN (L2.trans (LkX.back L3 hP L4).x))
end
end Mine
end
noncomputable section
namespace Mine
open PySem PySem.W PyProof.Rows
structure Mild (σ σ' : St) : Prop where
  keys : σ'.keys = σ.keys
  slots : σ'.slots = σ.slots
  sort : σ'.sort = σ.sort
  vars : σ'.vars = σ.vars
  hasD : σ'.hasD = σ.hasD
  isD : σ'.isD = σ.isD
  last : σ'.last = σ.last
  log : σ'.log = σ.log
  freed : σ'.freed = σ.freed
theorem Mild.refl (σ : St) : Mild σ σ := ⟨rfl, rfl, rfl, rfl, rfl, rfl, rfl, rfl, rfl⟩
theorem Mild.trans {a b c : St} (x : Mild a b) (y : Mild b c) : Mild a c :=
  ⟨y.keys.trans x.keys, y.slots.trans x.slots, y.sort.trans x.sort, y.vars.trans x.vars, y.hasD.trans x.hasD, y.isD.trans x.isD, y.last.trans x.last, y.log.trans x.log, y.freed.trans x.freed⟩
theorem Mild.shape {σ σ' : St} (m : Mild σ σ') : Shape σ σ' := ⟨m.keys, m.slots, m.vars⟩
section
variable {σ σ' : St} {b : Nat}
theorem BufOk.len (u : BufOk σ) : σ.buffer.length ≤ σ.keys.length := u.nd.length_le_of_subset u.sub
theorem Good.mild (G : Good σ b) (m : Mild σ σ') (u : BufOk σ') (hb : b ≤ 200) : Good σ' b :=
  G.of_same m.keys m.sort m.slots m.vars m.last (by rw [m.log]; exact G.log) (by have := u.len; rw [m.keys] at this; have := G.W.nkeys; lia) hb
theorem Good.fit (G : Good σ b) (u : BufOk σ) (hb : b ≤ 100) : Fit σ :=
  Fit.of G hb (by have := u.len; have := G.keys; lia) fun n hn e => by have := u.mem n hn; rw [e] at this; simpa using this.symm
theorem target_ok {n m : Int} (hn : n ∈ σ.keys) (h : target σ n = some m) : m ∈ σ.keys := by
  unfold target at h
  split at h
  · split at h
    · split at h
      · cases h; assumption
      · cases h
    · cases h
  · cases h; exact hn
theorem buf_ok (u : BufOk σ) {m : Int} (hm : m ∈ σ.keys) (hb : σ.buffered m = false) : BufOk (σ.buf m) := by
  have hnb : m ∉ σ.buffer := fun q => by have := u.mem m hm; rw [hb] at this; simp [q] at this
  refine ⟨fun n hn => ?_, ?_, fun n hn => ?_, fun n hn => ?_⟩
  · show upd σ.buffered m true n = decide (n ∈ σ.buffer ++ [m])
    by_cases e : n = m
    · subst e; simp [upd_self]
    · rw [upd_ne _ _ e, u.mem n hn]; simp [e]
  · exact List.nodup_append.mpr ⟨u.nd, by simp, fun a ha b hb' e => by rw [List.mem_singleton.mp hb'] at e; exact hnb (e ▸ ha)⟩
  · rcases List.mem_append.mp hn with q | q
    · exact u.sub n q
    · rw [List.mem_singleton.mp q]; exact hm
  · show upd σ.colour m "purple" n = if n ∈ σ.buffer ++ [m] then _ else _
    by_cases e : n = m
    · subst e; simp [upd_self]
    · rw [upd_ne _ _ e, u.col n hn]; simp [e]
theorem suspect_facts (u : BufOk σ) {n : Int} (hn : n ∈ σ.keys) : BufOk (suspect σ n) ∧ Mild σ (suspect σ n) ∧ (suspect σ n).count = σ.count ∧ (∀ x ∈ σ.buffer, x ∈ (suspect σ n).buffer) ∧ (∀ m, target σ n = some m → m ∈ (suspect σ n).buffer) := by
  unfold suspect
  cases ht : target σ n with
  | none => exact ⟨u, Mild.refl σ, rfl, fun _ h => h, fun m h => by cases h⟩
  | some m =>
    have hm := target_ok hn ht
    dsimp only
    cases hb : σ.buffered m with
    | true =>
      rw [if_pos rfl]
      refine ⟨u, Mild.refl σ, rfl, fun _ h => h, fun m' h => ?_⟩
      cases h
      have := u.mem m hm; rw [hb] at this; simpa using this.symm
    | false =>
      rw [if_neg (by simp)]
      exact ⟨buf_ok u hm hb, ⟨rfl, rfl, rfl, rfl, rfl, rfl, rfl, rfl, rfl⟩, rfl, fun x h => List.mem_append_left _ h, fun m' h => by cases h; exact List.mem_append_right _ (by simp)⟩
theorem BufOk.cnt (u : BufOk σ) (n d : Int) : BufOk (σ.cnt n d) := ⟨u.mem, u.nd, u.sub, u.col⟩
theorem lose_run (vs : List Val) : ∀ {σ : St}, Good σ b → b ≤ 100 → BufOk σ → Bal σ vs → (∀ n ∈ σ.keys, 0 < refs σ n) → vs.length ≤ 50000 →
    ∃ m σe, RunT σe m σ (vs.reverse.map .lose) ∧ Mild σ σe ∧ BufOk σe ∧ Bal σe [] ∧ (vs = [] → σe = σ) := by
  induction vs with
  | nil => intro σ G hb u B P hl; exact ⟨0, σ, .done, Mild.refl σ, u, B, fun _ => rfl⟩
  | cons v r ih =>
    intro σ G hb u B P hl
    rw [List.length_cons] at hl
    have key : ∃ σ1, lose σ v = (σ1, []) ∧ Mild σ σ1 ∧ BufOk σ1 ∧ Bal σ1 r := by
      cases v with
      | int i => exact ⟨σ, rfl, Mild.refl σ, u, fun n hn => by rw [B n hn, pc_cons, pc_int]; lia⟩
      | cell n =>
        by_cases hn : n ∈ σ.keys
        · have hc : (σ.cnt n (-1)).count n = refs σ n + pc r n := by
            show upd σ.count n _ n = _
            rw [upd_self, B n hn, pc_cons, pc_cell, if_pos rfl]; lia
          have hp := P n hn
          have hr := pc_nn r n
          obtain ⟨s1, s2, s3, s4, s5⟩ := suspect_facts (u.cnt n (-1)) (n := n) hn
          have m0 : Mild σ (σ.cnt n (-1)) := ⟨rfl, rfl, rfl, rfl, rfl, rfl, rfl, rfl, rfl⟩
          have m1 : Mild σ (suspect (σ.cnt n (-1)) n) := m0.trans s2
          refine ⟨suspect (σ.cnt n (-1)) n, ?_, m1, s1, fun x hx => ?_⟩
          · unfold lose
            dsimp only
            rw [if_pos hn, if_pos (by rw [hc]; lia)]
          · rw [m1.shape.refs, s3]
            rw [m1.keys] at hx
            by_cases e : x = n
            · subst e; exact hc
            · show upd σ.count n _ x = _
              rw [upd_ne _ _ e, B x hx, pc_cons, pc_cell, if_neg e]; lia
        · refine ⟨σ, ?_, Mild.refl σ, u, fun x hx => ?_⟩
          · unfold lose
            dsimp only
            rw [if_neg hn]
          · have e : x ≠ n := fun q => hn (q ▸ hx)
            rw [B x hx, pc_cons, pc_cell, if_neg e]; lia
    obtain ⟨σ1, e1, m1, u1, b1⟩ := key
    obtain ⟨m, σe, run, m2, u2, b2, _⟩ := ih (G.mild m1 u1 (by lia)) hb u1 b1 (fun n hn => by rw [m1.shape.refs]; exact P n (m1.keys ▸ hn)) (by lia)
    refine ⟨m + 1, σe, ?_, m1.trans m2, u2, b2, fun h => by cases h⟩
    rw [List.reverse_cons, List.map_append]
    refine RunT.step (t := .lose v) (G.fit u hb) (by simp; lia) ?_ (fun d e => by cases e) ?_
    · show (lose σ v).2.length ≤ _
      rw [e1]; simp
    · show RunT σe m (lose σ v).1 (_ ++ (lose σ v).2)
      rw [e1, List.append_nil]; exact run
theorem sumL_split (l : List Int) (p : Int → Bool) (f : Int → Int) : sumL l f = sumL (l.filter p) f + sumL (l.filter fun n => !p n) f := by
  induction l with
  | nil => rfl
  | cons a r ih =>
    rw [sumL_cons, List.filter_cons, List.filter_cons, ih]
    cases p a
    · simp only [Bool.not_false, if_true, Bool.false_eq_true, if_false]; rw [sumL_cons]; lia
    · simp only [Bool.not_true, if_true, Bool.false_eq_true, if_false]; rw [sumL_cons]; lia
theorem sumL_perm {a b : List Int} (h : a.Perm b) (f : Int → Int) : sumL a f = sumL b f := by
  induction h with
  | nil => rfl
  | cons x _ ih => rw [sumL_cons, sumL_cons, ih]
  | swap x y l => simp only [sumL_cons]; lia
  | trans _ _ h1 h2 => exact h1.trans h2
theorem flat_count (l : List Int) (x : Int) : ((l.flatMap (kids σ)).count x : Int) = sumL l (fun m => kc σ m x) := by
  induction l with
  | nil => rfl
  | cons a r ih => rw [List.flatMap_cons, List.count_append, sumL_cons, ← ih]; unfold kc; lia
theorem flat_pc (l : List Int) (x : Int) : pc (l.flatMap (hvals σ)) x = sumL l (fun m => kc σ m x) := by
  induction l with
  | nil => rfl
  | cons a r ih => rw [List.flatMap_cons, pc_app, sumL_cons, ← ih]; rfl
theorem sum_gone (σ : St) (f : Int → Int) : sumL σ.keys f = sumL (σ.keys.filter (liveB σ)) f + sumL (gone σ) f := by
  rw [sumL_split σ.keys (liveB σ) f]
  congr 1
  exact sumL_perm (sortI_perm _).symm f
theorem gone_refs {n : Int} (hn : n ∈ gone σ) : refs σ n = sumL (gone σ) (fun m => kc σ m n) := by
  obtain ⟨hk, hl⟩ := gone_mem.mp hn
  have h1 : (vcells σ).count n = 0 := List.count_eq_zero.mpr fun q => hl (.root q)
  have h2 : sumL (σ.keys.filter (liveB σ)) (fun m => kc σ m n) = sumL (σ.keys.filter (liveB σ)) (fun _ => 0) := sumL_congr fun m hm => by
    obtain ⟨a, b⟩ := List.mem_filter.mp hm
    exact kc_zero fun q => hl (.step (liveB_iff.mp b) a q)
  unfold refs
  rw [h1, sum_gone, h2, sumL_zero]; lia
noncomputable def due (σ : St) : List Int := (gone σ).filter fun n => σ.hasD n && !σ.isD n
structure Col (σ σ' : St) : Prop where
  keys : σ'.keys = σ.keys.filter (liveB σ)
  slots : σ'.slots = σ.slots
  sort : σ'.sort = σ.sort
  vars : σ'.vars = σ.vars
  hasD : σ'.hasD = σ.hasD
  last : σ'.last = σ.last
  isD : ∀ n ∈ σ'.keys, σ'.isD n = σ.isD n
  log : σ'.log = σ.log ++ (due σ).map .destruct ++ (gone σ).map .free
  freed : σ'.freed = σ.freed + (gone σ).length
structure Inv (σ : St) (b : Nat) : Prop where
  J : J σ [] []
  G : Good σ b
  hb : b ≤ 98
  last : σ.last ≤ 100
  k60 : σ.keys.length ≤ 60
  vk : ∀ p ∈ σ.vars, 0 ≤ p.1
theorem Inv.log (I : Inv σ b) : σ.log.length ≤ 300 := by
  have h1 := I.J.lg.len
  have h2 := sumL_nonneg (l := σ.keys) (f := fun n => if σ.isD n then (1 : Int) else 2) fun n _ => by split <;> lia
  have := I.last
  lia
theorem filter_live_kids (C : Cl σ) {m n : Int} (hm : m ∈ σ.keys.filter (liveB σ)) (hk : n ∈ kids σ m) : n ∈ σ.keys.filter (liveB σ) := by
  obtain ⟨a, b⟩ := List.mem_filter.mp hm
  exact List.mem_filter.mpr ⟨kids_mem C a hk, liveB_iff.mpr (.step (liveB_iff.mp b) a hk)⟩
theorem live_filter (C : Cl σ) (h1 : σ'.keys = σ.keys.filter (liveB σ)) (h2 : σ'.slots = σ.slots) (h3 : σ'.vars = σ.vars) {n : Int} : Live σ' n ↔ Live σ n := by
  have hk : ∀ m, kids σ' m = kids σ m := fun m => by unfold kids hvals; rw [h2]
  have hv : vr σ' = vr σ := by funext x; unfold vr vcells; rw [h3]
  constructor
  · intro h
    unfold Live at h ⊢
    rw [hv] at h
    exact h.mono (fun n h => .root h) fun m n hm hk' h => .step h (by rw [h1] at hm; exact (List.mem_filter.mp hm).1) (by rw [← hk]; exact hk')
  · intro h
    unfold Live at h ⊢
    induction h with
    | root h => exact .root (hv ▸ h)
    | @step m n hr hm hk' ih => exact .step ih (by rw [h1]; exact List.mem_filter.mpr ⟨hm, liveB_iff.mpr hr⟩) (by rw [hk]; exact hk')
theorem Col.live (C : Cl σ) (c : Col σ σ') {n : Int} (hn : n ∈ σ'.keys) : Live σ' n := by
  rw [c.keys] at hn
  exact (live_filter C c.keys c.slots c.vars).mpr (liveB_iff.mp (List.mem_filter.mp hn).2)
theorem Col.gone0 (C : Cl σ) (c : Col σ σ') : gone σ' = [] := by
  refine List.eq_nil_iff_forall_not_mem.mpr fun n hn => ?_
  obtain ⟨a, b⟩ := gone_mem.mp hn
  exact b (c.live C a)
theorem Col.refl (h : Mine.gone σ = []) : Col σ σ := by
  refine ⟨(List.filter_eq_self.mpr fun n hn => ?_).symm, rfl, rfl, rfl, rfl, rfl, fun _ _ => rfl, by simp [due, h], by simp [h]⟩
  cases e : liveB σ n with
  | true => rfl
  | false =>
    have : n ∈ Mine.gone σ := gone_mem.mpr ⟨hn, liveB_false.mp e⟩
    rw [h] at this; cases this
theorem Col.then {σ'' : St} (c : Col σ σ') (d : Col σ' σ'') (h : Mine.gone σ' = []) : Col σ σ'' := by
  have hk : σ''.keys = σ'.keys := by rw [d.keys, (Col.refl h).keys.symm]
  refine ⟨hk.trans c.keys, d.slots.trans c.slots, d.sort.trans c.sort, d.vars.trans c.vars, d.hasD.trans c.hasD, d.last.trans c.last, fun n hn => ?_, ?_, ?_⟩
  · exact (d.isD n hn).trans (c.isD n (hk ▸ hn))
  · rw [d.log, c.log]; simp [due, h]
  · rw [d.freed, c.freed, h]; simp
end
end Mine
end
noncomputable section
namespace Mine
open PySem PySem.W PyProof.Rows
section
variable {σ σ' : St} {H : Hp} {k b : Nat} {Q : V → Hp → Prop}
theorem frees_map_d (l : List Int) : frees (l.map .destruct) = [] := by
  unfold frees; rw [List.filterMap_map]
  exact List.filterMap_eq_nil_iff.mpr fun _ _ => rfl
theorem frees_map_f (l : List Int) : frees (l.map .free) = l := by
  unfold frees; rw [List.filterMap_map]
  induction l with
  | nil => rfl
  | cons a r ih => rw [List.filterMap_cons]; simp only [Function.comp]; rw [ih]
theorem due_mem {n : Int} : n ∈ due σ ↔ n ∈ gone σ ∧ σ.hasD n = true ∧ σ.isD n = false := by
  unfold due; rw [List.mem_filter]; simp
theorem Col.logOk (L : LogOk σ) (W : Wf σ) (c : Col σ σ') : LogOk σ' := by
  have gk : ∀ n ∈ gone σ, n ∈ σ.keys := fun n hn => (gone_mem.mp hn).1
  have fe : frees σ'.log = frees σ.log ++ gone σ := by rw [c.log, frees_app, frees_app, frees_map_d, frees_map_f, List.append_nil]
  refine ⟨?_, fun n hn => ?_, ?_, ?_⟩
  · rw [fe]
    exact List.nodup_append.mpr ⟨L.nd, gone_nd W.ndk, fun a ha b hb e => by subst e; exact (L.old a ha).1 (gk a hb)⟩
  · rw [fe] at hn
    rw [c.keys, c.last]
    rcases List.mem_append.mp hn with q | q
    · exact ⟨fun z => (L.old n q).1 (List.mem_filter.mp z).1, (L.old n q).2⟩
    · refine ⟨fun z => ?_, W.last n (gk n q)⟩
      exact (gone_mem.mp q).2 (liveB_iff.mp (List.mem_filter.mp z).2)
  · rw [c.freed, fe, L.freed, List.length_append]; lia
  · have h1 := L.len
    have h2 := sum_gone σ (fun n => if σ.isD n then 1 else 2)
    have h3 : sumL σ'.keys (fun n => if σ'.isD n then 1 else 2) = sumL (σ.keys.filter (liveB σ)) (fun n => if σ.isD n then 1 else 2) := by
      rw [← c.keys]; exact sumL_congr fun n hn => by rw [c.isD n hn]
    have h4 : ∀ l : List Int, ((l.filter fun n => σ.hasD n && !σ.isD n).length : Int) + l.length ≤ sumL l (fun n => if σ.isD n then 1 else 2) := fun l => by
      induction l with
      | nil => simp [sumL]
      | cons a r ih =>
        rw [sumL_cons, List.filter_cons, List.length_cons]
        cases σ.hasD a <;> cases σ.isD a <;> simp <;> lia
    have h5 := h4 (gone σ)
    rw [h3, c.log, c.last]
    simp only [List.length_append, List.length_map]
    unfold due
    lia
theorem turn_math (I : Inv σ b) {kk : Int → String} (hkk : ∀ n ∈ σ.keys, kk n = "black") (v : Nat) :
    Good ((σ.calm kk).dsts (due σ) v) b ∧ Fit ((σ.calm kk).dsts (due σ) v) ∧ BufE ((σ.calm kk).dsts (due σ) v) ∧
    ∃ m σe, RunT σe m ((gone σ).foldl St.freeC ((σ.calm kk).dsts (due σ) v)) (((gone σ).flatMap (hvals ((σ.calm kk).dsts (due σ) v))).reverse.map .lose) ∧ Col σ σe ∧ Inv σe b ∧ (gone σ = [] → σe.buffer = []) := by
  have gk : ∀ n ∈ gone σ, n ∈ σ.keys := fun n hn => (gone_mem.mp hn).1
  have gnd := gone_nd I.G.W.ndk
  have dnd : (due σ).Nodup := filter_nd gnd _
  have dg' : ∀ n ∈ due σ, n ∈ gone σ := fun n hn => (due_mem.mp hn).1
  have glen : (gone σ).length ≤ σ.keys.length := gnd.length_le_of_subset gk
  have dlen : (due σ).length ≤ σ.keys.length := dnd.length_le_of_subset fun n hn => gk n (dg' n hn)
  have h60 := I.k60
  have hb := I.hb
  have hlog := I.log
  obtain ⟨τ, hτ⟩ : ∃ τ, τ = (σ.calm kk).dsts (due σ) v := ⟨_, rfl⟩
  have Gτ : Good τ b := I.G.of_same (by rw [hτ]; rfl) (by rw [hτ]; rfl) (by rw [hτ]; rfl) (by rw [hτ]; rfl) (by rw [hτ]; rfl) (by rw [hτ]; simp only [St.dsts, St.calm, St.unb, List.length_append, List.length_map]; lia) (by rw [hτ]; simp only [St.dsts, St.calm, St.unb, List.length_append, List.length_nil]; lia) (by lia)
  have kτ : τ.keys = σ.keys := by rw [hτ]; rfl
  have uτ : τ.buffer = due σ := by rw [hτ]; simp [St.dsts, St.calm, St.unb]
  have bτ : ∀ n ∈ σ.keys, τ.buffered n = decide (n ∈ due σ) := fun n hn => by
    rw [hτ]; simp only [St.dsts, St.calm, St.unb]
    by_cases z : n ∈ due σ
    · simp [z]
    · simp only [z, if_false, decide_false]
      by_cases y : n ∈ σ.buffer
      · simp [y]
      · simp [y, I.J.buf.mem n hn]
  have cτ : ∀ n ∈ σ.keys, n ∉ due σ → τ.colour n = "black" := fun n hn h => by
    rw [hτ]; simp only [St.dsts, St.calm, h, if_false]; exact hkk n hn
  have BEτ : BufE τ := by
    refine ⟨fun n hn => ?_, by rw [uτ]; exact dnd, fun n hn => ?_⟩
    · rw [uτ]; exact bτ n (kτ ▸ hn)
    · rw [uτ] at hn; rw [kτ]; exact gk n (dg' n hn)
  have Fτ : Fit τ := Fit.of Gτ (by lia) (by rw [uτ]; lia) fun n hn e => by have := BEτ.mem n hn; rw [e] at this; simpa using this.symm
  have lτ : τ.log = σ.log ++ (due σ).map .destruct := by rw [hτ]; rfl
  have cnτ : τ.count = σ.count := by rw [hτ]; rfl
  have iτ : ∀ n, n ∉ due σ → τ.isD n = σ.isD n := fun n h => by rw [hτ]; simp only [St.dsts, h, if_false]; rfl
  have hdτ : τ.hasD = σ.hasD := by rw [hτ]; rfl
  have slτ : τ.slots = σ.slots := by rw [hτ]; rfl
  have soτ : τ.sort = σ.sort := by rw [hτ]; rfl
  have vτ : τ.vars = σ.vars := by rw [hτ]; rfl
  have laτ : τ.last = σ.last := by rw [hτ]; rfl
  have frτ : τ.freed = σ.freed := by rw [hτ]; rfl
  rw [← hτ]
  have FF := FreeF.fold Fτ BEτ (gone σ) gnd (fun n hn => by rw [kτ]; exact gk n hn) (by rw [lτ]; simp only [List.length_append, List.length_map]; lia)
  refine ⟨Gτ, Fτ, BEτ, ?_⟩
  clear hτ
  generalize (gone σ).foldl St.freeC τ = υ at FF ⊢
  have kυ : υ.keys = σ.keys.filter (liveB σ) := by
    rw [FF.keys, kτ]
    refine List.filter_congr fun n hn => ?_
    rw [Bool.eq_iff_iff, decide_eq_true_eq, gone_mem, liveB_iff]
    constructor
    · intro h; exact Classical.byContradiction fun q => h ⟨hn, q⟩
    · rintro h ⟨_, q⟩; exact q h
  have slυ : υ.slots = σ.slots := FF.slots.trans slτ
  have vυ : υ.vars = σ.vars := FF.vars.trans vτ
  have soυ : υ.sort = σ.sort := FF.sort.trans soτ
  have C := I.G.C
  have kiυ : ∀ m, kids υ m = kids σ m := fun m => by unfold kids hvals; rw [slυ]
  have kcυ : ∀ m x, kc υ m x = kc σ m x := fun m x => by unfold kc; rw [kiυ]
  have sub : ∀ n ∈ υ.keys, n ∈ σ.keys := fun n hn => by rw [kυ] at hn; exact (List.mem_filter.mp hn).1
  have buf0 : υ.buffer = [] := List.eq_nil_iff_forall_not_mem.mpr fun n hn => by
    have := (FF.buf n).mp hn
    rw [uτ] at this; exact this.2 (dg' n this.1)
  have ngo : ∀ n ∈ υ.keys, n ∉ gone σ := fun n hn q => by
    rw [kυ] at hn; exact (gone_mem.mp q).2 (liveB_iff.mp (List.mem_filter.mp hn).2)
  have Bυ : BufOk υ := by
    refine ⟨FF.bufe.mem, FF.bufe.nd, FF.bufe.sub, fun n hn => ?_⟩
    rw [buf0, if_neg (by simp), FF.colour]
    exact cτ n (sub n hn) fun q => ngo n hn (dg' n q)
  have Cυ : Cl υ := by
    refine ⟨fun p hp => ?_, fun n hn p hp => ?_, fun n hn e p hp => ?_⟩
    · rw [vυ] at hp
      have h1 := C.vars p hp
      cases hpv : p.2 with
      | int _ => trivial
      | cell m =>
        rw [hpv] at h1
        show m ∈ υ.keys
        rw [kυ]
        exact List.mem_filter.mpr ⟨h1, liveB_iff.mpr (.root (cellsOf_mem.mpr (List.mem_map.mpr ⟨p, hp, hpv⟩)))⟩
    · rw [slυ] at hp
      have h1 := C.slots n (sub n hn) p hp
      cases hpv : p.2 with
      | int _ => trivial
      | cell m =>
        rw [hpv] at h1
        show m ∈ υ.keys
        rw [kυ] at hn ⊢
        exact filter_live_kids C hn (cellsOf_mem.mpr (List.mem_map.mpr ⟨p, hp, hpv⟩))
    · rw [slυ] at hp; rw [soυ] at e
      have h1 := C.nr n (sub n hn) e p hp
      cases hpv : p.2 with
      | int _ => rfl
      | cell m =>
        rw [hpv] at h1
        have h2 := C.slots n (sub n hn) p hp
        rw [hpv] at h2
        have h2' : m ∈ σ.keys := h2
        simp only [isRef, h2', decide_true, Bool.true_and, soυ] at h1 ⊢
        rw [h1]; simp
  have Gυ : Good υ b := by
    refine ⟨FF.fit.W, Cυ, ?_, fun p hp => ?_, ?_⟩
    · rw [kυ]; exact Nat.le_trans (List.length_filter_le _ _) I.G.keys
    · cases p with
      | vars => show υ.vars.length ≤ b; rw [vυ]; exact I.G.at_ .vars trivial
      | cell n => show (υ.slots n).length ≤ b; rw [slυ]; exact I.G.at_ (.cell n) (sub n hp)
    · rw [FF.log, lτ]; simp only [List.length_append, List.length_map]; lia
  have reυ : ∀ n, refs υ n + sumL (gone σ) (fun m => kc σ m n) = refs σ n := fun n => by
    unfold refs vcells
    rw [vυ, sum_gone σ, kυ]
    have : sumL (σ.keys.filter (liveB σ)) (fun m => kc υ m n) = sumL (σ.keys.filter (liveB σ)) (fun m => kc σ m n) := sumL_congr fun m _ => kcυ m n
    lia
  have hv' : (hvals τ) = hvals σ := by funext m; unfold hvals; rw [slτ]
  rw [hv']
  have balυ : Bal υ ((gone σ).flatMap (hvals σ)) := fun n hn => by
    rw [FF.count, cnτ, I.J.bal n (sub n hn), pc_nil, flat_pc, ← reυ n]; lia
  have liυ : ∀ n ∈ υ.keys, Live υ n := fun n hn => by
    refine (live_filter C kυ slυ vυ).mpr ?_
    rw [kυ] at hn; exact liveB_iff.mp (List.mem_filter.mp hn).2
  have posυ : ∀ n ∈ υ.keys, 0 < refs υ n := fun n hn => by
    cases liυ n hn with
    | root h => exact refs_pos_var h
    | step h hm hk => exact refs_pos_kid hm hk
  have hfl := flat_take_len I.G.W gk
  obtain ⟨m, σe, run, mi, ue, be, em⟩ := lose_run ((gone σ).flatMap (hvals σ)) Gυ (by lia) Bυ balυ posυ (by lia)
  have col : Col σ σe := by
    refine ⟨mi.keys.trans kυ, mi.slots.trans slυ, mi.sort.trans soυ, mi.vars.trans vυ, mi.hasD.trans (FF.hasD.trans hdτ), mi.last.trans (FF.last.trans laτ), fun n hn => ?_, ?_, ?_⟩
    · rw [mi.isD, FF.isD]
      exact iτ n fun q => ngo n (mi.keys ▸ hn) (dg' n q)
    · rw [mi.log, FF.log, lτ]
    · rw [mi.freed, FF.freed, frτ]
  have Ge := Gυ.mild mi ue (by lia)
  have sube : ∀ n ∈ σe.keys, n ∈ σ.keys := fun n hn => sub n (mi.keys ▸ hn)
  refine ⟨m, σe, run, col, ⟨⟨be, fun n hn => ?_, fun v hv => (by cases hv), ue, ⟨fun n hn => I.J.pos.1 n (sube n hn), by rw [col.last]; exact I.J.pos.2⟩, col.logOk I.J.lg I.G.W, fun n hn => ?_⟩, Ge, I.hb, by rw [col.last]; exact I.last, ?_, fun p hp => I.vk p (col.vars ▸ hp)⟩, fun h => ?_⟩
  · exact (col.live C hn).mono (fun n h => .root (.inl h)) fun m n hm hk h => .step h hm hk
  · rw [col.hasD, col.sort]; exact I.J.obj n (sube n hn)
  · rw [col.keys]; exact Nat.le_trans (List.length_filter_le _ _) I.k60
  · have : (gone σ).flatMap (hvals σ) = [] := by rw [h]; rfl
    rw [em this]; exact buf0
end
end Mine
end
noncomputable section
namespace Mine
open PySem PySem.W PyProof.Rows
section
variable {σ σ' : St} {H : Hp} {k b : Nat} {Q : V → Hp → Prop}
theorem filter_ints (l : List Int) (p : Int → Bool) (pv : V → Bool) (h : ∀ n, pv (.int n) = p n) : ((l.map V.int).filter pv).map id = (l.filter p).map V.int := by
  induction l with
  | nil => rfl
  | cons a r ih =>
    rw [List.map_cons, List.filter_cons, List.filter_cons, h]
    cases p a
    · simpa using ih
    · simp only [if_true, List.map_cons, id]; rw [ih]
noncomputable def onInt (p : Int → Bool) : V → Bool
  | .int n => p n
  | _ => false
theorem sp_turn (R : Rep σ H) (I : Inv σ b)
    (q : ∀ σ' H', Col σ σ' → Inv σ' b → (gone σ = [] → σ'.buffer = []) → Rep σ' H' → Lk H H' → Q .none H') : callP tab (k + 10) "turn" [.obj .root] Q H := by
  refine c_fn rfl rfl ?_
  unfold b_turn
  refine s_assign (i_call (i_cons (i_var rfl (i_nil (?_)))))
  refine sp_find_rings (k := k + 4) R I.G.W I.G.C I.J.bal I.J.full I.J.buf I.k60 fun N H1 kk R1 hkk L1 hN e1 => ?_
  have gk : ∀ n ∈ gone σ, n ∈ σ.keys := fun n hn => (gone_mem.mp hn).1
  have gk1 : ∀ n ∈ gone σ, n ∈ (σ.calm kk).keys := gk
  have gnd := gone_nd I.G.W.ndk
  have dnd : (due σ).Nodup := filter_nd gnd _
  have dg' : ∀ n ∈ due σ, n ∈ gone σ := fun n hn => (due_mem.mp hn).1
  have glen : (gone σ).length ≤ σ.keys.length := gnd.length_le_of_subset gk
  have dlen : (due σ).length ≤ σ.keys.length := dnd.length_le_of_subset fun n hn => gk n (dg' n hn)
  have h60 := I.k60
  have hb := I.hb
  have hlog := I.log
  have G1 : Good (σ.calm kk) b := I.G.of_same rfl rfl rfl rfl rfl (by show σ.log.length ≤ _; lia) (by simp [St.calm, St.unb]) (by lia)
  refine s_assign (i_comp (i_var rfl (comp_pure (onInt fun n => σ.hasD n && !σ.isD n) id (items := (gone σ).map V.int) (keep := some (.loc N)) (srcL e1) ?_ (fun _ _ _ _ q' => i_var rfl q') ?_)))
  · intro it hit Q' q'
    obtain ⟨a, ha, rfl⟩ := List.mem_map.mp hit
    have hak := gk1 a ha
    refine i_c (i_call (i_cons (i_idx (i_attr (i_var rfl ⟨_, R1.r_cells, i_var rfl (⟨_, R1.i_cells hak, i_nil (?_)⟩)⟩)))))
    refine sp_wants_destructor (k := k + 8) R1 hak ⟨_, rfl, ?_⟩
    show if (σ.hasD a && !σ.isD a) = true then _ else _
    change Q' (σ.hasD a && !σ.isD a) _ at q'
    cases z : (σ.hasD a && !σ.isD a) with
    | true => rw [z] at q'; exact it_t q'
    | false => rw [z] at q'; exact it_f q'
  rw [filter_ints (gone σ) (fun n => σ.hasD n && !σ.isD n) _ fun n => rfl]
  refine new_loc R1 _ fun M H2 R2 L2 hM e2 => ?_
  have e2' : H2 (.loc M) = some (.list ((due σ).map V.int)) := by rw [e2, Hp.set_self]; rfl
  clear e2
  have e1' := L2 N _ e1
  have L12 := L1.trans L2
  have fin : ∀ (v : Nat) (ρ : Env) (H3 : Hp) (P : Nat), Rep ((σ.calm kk).dsts (due σ) v) H3 → Lk H2 H3 → H3 (.loc P) = some (.list ((gone σ).map V.int)) → ρ "heap" = some (.obj .root) → ρ "white" = some (.obj (.loc P)) →
      wpSs (callP tab (k + 9)) [.expr (.call "free_all" [(.var "heap"), (.var "white")])] ρ (retQ Q) H3 := by
    intro v ρ H3 P R3 L3 e3 h1 h2
    obtain ⟨Gτ, Fτ, Bτ, m, σe, run, col, I', em⟩ := turn_math I hkk v
    refine s_expr (i_call (i_cons (i_var h1 (i_cons (i_var h2 (i_nil (?_)))))))
    refine sp_free_all (k := k) R3 Fτ Bτ e3 gk gnd (by lia) (by simp only [St.dsts, St.calm, St.unb, List.length_append, List.length_map]; lia) run fun H4 R4 L4 => ?_
    exact s_nil (r_next (q σe H4 col I' em R4 ((L12.trans L3).trans L4)))
  refine s_if (i_var rfl ?_)
  by_cases hd : due σ = []
  · refine t_f (by rw [truL e2', hd]; rfl) (s_nil (s_seq ?_))
    refine fin (σ.calm kk).vep _ H2 N ?_ (Lk.refl _) e1' rfl rfl
    rw [hd, dsts_nil]; exact R2
  · refine t_t (truN e2' hd) (s_expr (i_call (i_cons (i_var rfl (i_cons (i_var rfl (i_nil (?_))))))))
    refine sp_run_destructors (k := k) R2 G1 hb e2' (fun n hn => gk1 n (dg' n hn)) dnd (by show σ.log.length + _ ≤ _; lia) (by simp only [St.calm, St.unb, List.length_nil]; lia) ?_ ?_ I.vk fun v H3 R3 L3 => ?_
    · intro n hn e
      simp only [St.calm, St.unb] at e ⊢
      by_cases y : n ∈ σ.buffer
      · simp [y] at e
      · simp [y, I.J.buf.mem n hn] at e
    · intro n hn
      have hng := dg' n hn
      have hnk := gk n hng
      refine ⟨I.J.obj n hnk (due_mem.mp hn).2.1, ?_, ?_, I.J.pos.1 n hnk⟩
      · show 0 ≤ σ.count n
        rw [I.J.bal n hnk, pc_nil]; have := refs_nn σ n; lia
      · simp only [St.calm, St.unb]
        by_cases y : n ∈ σ.buffer
        · simp [y]
        · simp [y, I.J.buf.mem n hnk]
    refine s_assign (i_call (i_cons (i_var rfl (i_cons (i_var rfl (i_nil (?_)))))))
    have Gτ := (turn_math I hkk v).1
    have sh : Shape σ ((σ.calm kk).dsts (due σ) v) := ⟨rfl, rfl, rfl⟩
    refine sp_without_held (k := k + 5) R3 Gτ.W Gτ.C (L3 N _ e1') gk gnd (by lia) ?_ fun P H4 R4 L4 hP e4 => ?_
    · intro n hn
      rw [flat_count]
      have h1 : ((σ.calm kk).dsts (due σ) v).count n = σ.count n := rfl
      rw [h1, I.J.bal n (gk n hn), pc_nil, gone_refs hn]
      have : sumL (gone σ) (fun m => kc ((σ.calm kk).dsts (due σ) v) m n) = sumL (gone σ) (fun m => kc σ m n) := sumL_congr fun m _ => sh.kc m n
      lia
    exact s_nil (s_seq (fin v _ H4 P R4 (L3.trans L4) e4 rfl rfl))
theorem sp_collect (R : Rep σ H) (I : Inv σ b)
    (q : ∀ σ' H', Col σ σ' → Inv σ' b → σ'.buffer = [] → Rep σ' H' → Lk H H' → Q (.int (gone σ).length) H') : callP tab (k + 11) "collect" [.obj .root] Q H := by
  refine c_fn rfl rfl ?_
  unfold b_collect
  refine s_assign (i_attr (i_var rfl ⟨_, R.r_freed, ?_⟩))
  have endq : ∀ (ρ : Env) σ' H', ρ "heap" = some (.obj .root) → ρ "before" = some (.int σ.freed) → Col σ σ' → Inv σ' b → σ'.buffer = [] → Rep σ' H' → Lk H H' →
      wpSs (callP tab (k + 10)) [.ret (.bin .sub (.attr (.var "heap") "freed") (.var "before"))] ρ (retQ Q) H' := by
    intro ρ σ' H' h1 h2 col I' hbuf R' L'
    have e : σ'.freed - σ.freed = ((gone σ).length : Int) := by rw [col.freed]; lia
    exact s_ret (i_bin (i_attr (i_var h1 ⟨_, R'.r_freed, i_var h2 (b_subi (r_ret (e ▸ q σ' H' col I' hbuf R' L')))⟩)))
  have turn : ∀ {m' : Nat} {ρ' : Env} {σ' H'} {I : Nat → Env → Hp → Prop}, ρ' "heap" = some (.obj .root) → Inv σ' b → Rep σ' H' → (∀ σ'' H2, Col σ' σ'' → Inv σ'' b → (gone σ' = [] → σ''.buffer = []) → Rep σ'' H2 → Lk H' H2 → ∃ m, m < m' ∧ I m ρ' H2) →
      wpSs (callP tab (k + 10)) [.expr (.call "turn" [.var "heap"])] ρ' (loopQ I m' (retQ Q)) H' := fun h1 I' R' h =>
    s_expr (i_call (i_cons (i_var h1 (i_nil (sp_turn (k := k) R' I' fun σ'' H2 col2 I'' em R2 L2 => s_nil (h σ'' H2 col2 I'' em R2 L2))))))
  refine s_while (fun m ρ' H' => ρ' "heap" = some (.obj .root) ∧ ρ' "before" = some (.int σ.freed) ∧ Lk H H' ∧ ((m = 2 ∧ Rep σ H') ∨ (m = 1 ∧ ∃ σ', Col σ σ' ∧ Inv σ' b ∧ Rep σ' H') ∨ (m = 0 ∧ ∃ σ', Col σ σ' ∧ Inv σ' b ∧ σ'.buffer = [] ∧ Rep σ' H'))) 2 ⟨rfl, rfl, Lk.refl _, .inl ⟨rfl, R⟩⟩ ?_
  rintro m ρ' H' ⟨h1, h2, L, h⟩
  refine i_attr (i_var h1 ?_)
  rcases h with ⟨rfl, R'⟩ | ⟨rfl, σ', col, I', R'⟩ | ⟨rfl, σ', col, I', hbuf, R'⟩
  · refine ⟨_, R'.r_buffer, ?_⟩
    by_cases hbe : σ.buffer = []
    · have g0 : gone σ = [] := List.eq_nil_iff_forall_not_mem.mpr fun n hn => by
        obtain ⟨a, b⟩ := gone_mem.mp hn
        refine b ((I.J.full n a).mono (fun x h => ?_) fun m n hm hk h => .step h hm hk)
        rcases h with h | h | h | h
        · exact .root h
        · cases h
        · rw [hbe] at h; cases h
        · cases h
      exact t_f (by rw [truL R'.buf, hbe]; rfl) (endq ρ' σ H' h1 h2 (Col.refl g0) I hbe R' L)
    · exact t_t (truN R'.buf hbe) (turn h1 I R' fun σ' H2 col I' em R2 L2 => ⟨1, Nat.lt_succ_self 1, h1, h2, L.trans L2, .inr (.inl ⟨rfl, σ', col, I', R2⟩)⟩)
  · refine ⟨_, R'.r_buffer, ?_⟩
    by_cases hbe : σ'.buffer = []
    · exact t_f (by rw [truL R'.buf, hbe]; rfl) (endq ρ' σ' H' h1 h2 col I' hbe R' L)
    · have g0 := col.gone0 I.G.C
      exact t_t (truN R'.buf hbe) (turn h1 I' R' fun σ'' H2 col2 I'' em R2 L2 => ⟨0, Nat.zero_lt_one, h1, h2, L.trans L2, .inr (.inr ⟨rfl, σ'', col.then col2 g0, I'', em g0, R2⟩)⟩)
  · exact ⟨_, R'.r_buffer, t_f (by rw [truL R'.buf, hbuf]; rfl) (endq ρ' σ' H' h1 h2 col I' hbuf R' L)⟩
end
end Mine
end
noncomputable section
namespace Mine
open PySem PySem.W PyProof.Rows
noncomputable def dictS (seen : List Int) : List (Int × V) := seen.map fun n => (n, V.bool true)
theorem hasK_dictS {l : List Int} {c : Int} : hasK (dictS l) c = decide (c ∈ l) := by
  unfold hasK dictS
  rw [List.any_map, Bool.eq_iff_iff]
  simp
theorem putK_dictS {l : List Int} {c : Int} (h : c ∉ l) : putK (dictS l) c (.bool true) = dictS (l ++ [c]) := by
  unfold putK
  rw [hasK_dictS, if_neg (by simpa using h)]
  simp [dictS]
section
variable {σ : St} {H : Hp} {k b : Nat} {Q : V → Hp → Prop}
structure RI (σ : St) (seen : List Int) (line : List Val) : Prop where
  nd : seen.Nodup
  liv : ∀ n ∈ seen, Live σ n
  lin : ∀ n, Val.cell n ∈ line → Live σ n
  root : ∀ n, vr σ n → n ∈ seen ∨ Val.cell n ∈ line
  kid : ∀ m ∈ seen, ∀ n ∈ kids σ m, n ∈ seen ∨ Val.cell n ∈ line
theorem RI.new (C : Cl σ) {seen : List Int} {line : List Val} {n : Int} (h : RI σ seen (line ++ [.cell n])) (hn : n ∉ seen) : RI σ (seen ++ [n]) (line ++ hvals σ n) := by
  have hl := h.lin n (by simp)
  refine ⟨List.nodup_append.mpr ⟨h.nd, by simp, fun a ha b hb e => by rw [List.mem_singleton.mp hb] at e; exact hn (e ▸ ha)⟩, fun m hm => ?_, fun m hm => ?_, fun m hm => ?_, fun m hm x hx => ?_⟩
  · rcases List.mem_append.mp hm with q | q
    · exact h.liv m q
    · rw [List.mem_singleton.mp q]; exact hl
  · rcases List.mem_append.mp hm with q | q
    · exact h.lin m (by simp [q])
    · exact .step hl (hl.key C) (cellsOf_mem.mpr q)
  · rcases h.root m hm with q | q
    · exact .inl (List.mem_append_left _ q)
    · rcases List.mem_append.mp q with q | q
      · exact .inr (List.mem_append_left _ q)
      · cases List.mem_singleton.mp q; left; simp
  · rcases List.mem_append.mp hm with q | q
    · rcases h.kid m q x hx with q | q
      · exact .inl (List.mem_append_left _ q)
      · rcases List.mem_append.mp q with q | q
        · exact .inr (List.mem_append_left _ q)
        · cases List.mem_singleton.mp q; left; simp
    · rw [List.mem_singleton.mp q] at hx
      exact .inr (List.mem_append_right _ (cellsOf_mem.mp hx))
theorem RI.skip {seen : List Int} {line : List Val} {v : Val} (h : RI σ seen (line ++ [v])) (hv : ∀ n, v = .cell n → n ∈ seen) : RI σ seen line := by
  refine ⟨h.nd, h.liv, fun n hn => h.lin n (by simp [hn]), fun n hn => ?_, fun m hm n hn => ?_⟩
  · rcases h.root n hn with q | q
    · exact .inl q
    · rcases List.mem_append.mp q with q | q
      · exact .inr q
      · exact .inl (hv n (List.mem_singleton.mp q).symm)
  · rcases h.kid m hm n hn with q | q
    · exact .inl q
    · rcases List.mem_append.mp q with q | q
      · exact .inr q
      · exact .inl (hv n (List.mem_singleton.mp q).symm)
theorem RI.zero : RI σ [] (σ.vars.map (·.2)) :=
  ⟨by simp, fun n h => (by cases h), fun n h => .root (cellsOf_mem.mpr h), fun n h => .inr (cellsOf_mem.mp h), fun n h => (by cases h)⟩
theorem RI.end {seen : List Int} (h : RI σ seen []) (n : Int) : n ∈ seen ↔ Live σ n := by
  refine ⟨h.liv n, fun hl => ?_⟩
  unfold Live at hl
  induction hl with
  | root q =>
    rcases h.root _ q with z | z
    · exact z
    · cases z
  | step _ hm hk ih =>
    rcases h.kid _ ih _ hk with z | z
    · exact z
    · cases z
theorem RI.sorted (C : Cl σ) (W : Wf σ) {seen : List Int} (h : RI σ seen []) : sortI seen = here σ := by
  unfold here
  refine sortI_ext h.nd (filter_nd W.ndk _) fun x => ?_
  rw [h.end, List.mem_filter, liveB_iff]
  exact ⟨fun q => ⟨q.key C, q⟩, fun q => q.2⟩
noncomputable def rk (σ : St) (seen : List Int) : Int := sumL σ.keys fun n => if n ∉ seen then ((hvals σ n).length : Int) + 1 else 0
theorem rk_nn (σ : St) (seen : List Int) : 0 ≤ rk σ seen := sumL_nonneg fun n _ => by split <;> lia
theorem rk_one (W : Wf σ) {seen : List Int} {n : Int} (hk : n ∈ σ.keys) (hn : n ∉ seen) : rk σ seen = rk σ (seen ++ [n]) + ((hvals σ n).length + 1) := by
  have := sumL_one (f := fun m => if m ∉ seen then ((hvals σ m).length : Int) + 1 else 0) (g := fun m => if m ∉ seen ++ [n] then ((hvals σ m).length : Int) + 1 else 0) W.ndk hk fun m hm e => by simp [e]
  unfold rk
  rw [this, if_pos hn, if_neg (by simp)]; lia
theorem rk_bound (W : Wf σ) (seen : List Int) : rk σ seen ≤ 40200 := by
  have h1 : rk σ seen ≤ 201 * (σ.keys.length : Int) := sumL_const_le fun n hn => by
    have h2 : (hvals σ n).length ≤ 200 := by unfold hvals; rw [List.length_map]; exact W.nslots n hn
    split <;> lia
  have := W.nkeys
  lia
theorem pop_vals {N : Nat} {w : List Val} {v : Val} {P : V → Hp → Prop} (h : H (.loc N) = some (.list ((w ++ [v]).map Val.toV))) (q : P v.toV (H.set (.loc N) (.list (w.map Val.toV)))) : methL .pop (.loc N) [] P H := by
  exact ⟨_, h, w.map Val.toV, v.toV, rfl, List.map_append, q⟩
theorem ext_vals {N M : Nat} {w l : List Val} {P : V → Hp → Prop} (h1 : H (.loc N) = some (.list (w.map Val.toV))) (h2 : H (.loc M) = some (.list (l.map Val.toV))) (hl : w.length + l.length ≤ 90000) (q : P .none (H.set (.loc N) (.list ((w ++ l).map Val.toV)))) : methL .extend (.loc N) [.obj (.loc M)] P H := by
  rw [List.map_append] at q
  exact l_ext h1 h2 (by rw [List.length_map, List.length_map]; unfold LIM; lia) q
theorem hvals_len (W : Wf σ) {n : Int} (hn : n ∈ σ.keys) : (hvals σ n).length ≤ 200 := by unfold hvals; rw [List.length_map]; exact W.nslots n hn
noncomputable def RL (σ : St) (m : Nat) (seen : List Int) (line : List Val) : Prop := RI σ seen line ∧ (m : Int) = rk σ seen + line.length ∧ m ≤ 45000
theorem RL.zero (W : Wf σ) : ∃ m, RL σ m [] (σ.vars.map (·.2)) := by
  have h1 := rk_nn σ []
  have h2 := rk_bound W []
  have h3 := W.nvars
  exact ⟨(rk σ [] + σ.vars.length).toNat, RI.zero, by rw [List.length_map]; lia, by lia⟩
theorem RL.new (C : Cl σ) (W : Wf σ) {m : Nat} {seen : List Int} {line : List Val} {n : Int} (h : RL σ m seen (line ++ [.cell n])) (hn : n ∉ seen) : n ∈ σ.keys ∧ seen.length ≤ 200 ∧ ∃ m', m' < m ∧ RL σ m' (seen ++ [n]) (line ++ hvals σ n) := by
  obtain ⟨h1, h2, h3⟩ := h
  have hk := (h1.lin n (by simp)).key C
  have e := rk_one W hk hn
  have nn := rk_nn σ (seen ++ [n])
  rw [List.length_append, List.length_singleton] at h2
  have hs : seen.length ≤ σ.keys.length := h1.nd.length_le_of_subset fun x hx => (h1.liv x hx).key C
  have := W.nkeys
  exact ⟨hk, by lia, (rk σ (seen ++ [n]) + (line.length + (hvals σ n).length)).toNat, by lia, h1.new C hn, by rw [List.length_append]; lia, by lia⟩
theorem RL.skip {m : Nat} {seen : List Int} {line : List Val} {v : Val} (h : RL σ m seen (line ++ [v])) (hv : ∀ n, v = .cell n → n ∈ seen) : ∃ m', m' < m ∧ RL σ m' seen line := by
  obtain ⟨h1, h2, h3⟩ := h
  have nn := rk_nn σ seen
  rw [List.length_append, List.length_singleton] at h2
  exact ⟨m - 1, by lia, h1.skip hv, by lia, by lia⟩
theorem RL.len {m : Nat} {seen : List Int} {line : List Val} (h : RL σ m seen line) : line.length ≤ 45000 := by
  have nn := rk_nn σ seen
  obtain ⟨h1, h2, h3⟩ := h
  lia
noncomputable def valAt (σ : St) : V → V
  | .int k => (look σ.vars k).toV
  | v => v
theorem vars_comp {C' : CallP} {ρ : Env} (R : Rep σ H) (W : Wf σ) (hρ : ρ "heap" = some (.obj .root)) (q : newO (.list ((σ.vars.map (·.2)).map Val.toV)) Q H) : CompI C' (.idx (.attr (.var "heap") "vars") (.var "var")) "var" .plain [] ρ Q (.obj .varsD) H := by
  have key : ∀ p ∈ σ.vars, σ.vars.lookup p.1 = some p.2 := fun p hp => lookup_nd W.ndv hp
  refine comp_pure (items := (σ.vars.map sv).map fun p => .int p.1) (keep := some .varsD) (fun _ => true) (valAt σ) (srcD R.vars) (fun _ _ _ q' => i_c0 q') ?_ ?_
  · intro it hit _ Q' q'
    rw [List.map_map] at hit
    obtain ⟨p, hp, rfl⟩ := List.mem_map.mp hit
    have e : look σ.vars p.1 = p.2 := by unfold look; rw [key p hp]; rfl
    have q2 : Q' p.2.toV H := e ▸ q'
    exact i_idx (i_attr (i_var hρ ⟨_, R.r_vars, i_var rfl ⟨_, R.i_vars (key p hp), q2⟩⟩))
  · rw [List.filter_eq_self.mpr fun _ _ => rfl, List.map_map, List.map_map]
    rw [List.map_map] at q
    rw [show σ.vars.map ((valAt σ ∘ fun p : Int × V => V.int p.1) ∘ sv) = σ.vars.map (Val.toV ∘ fun p => p.2) from List.map_congr_left fun p hp => by
      show (look σ.vars p.1).toV = p.2.toV; unfold look; rw [key p hp]; rfl]
    exact q
noncomputable def RLP (σ : St) (H : Hp) (N F m : Nat) (H' : Hp) : Prop := ∃ seen line ep, RL σ m seen line ∧ Rep σ H' ∧ Lk H H' ∧ H' (.loc N) = some (.list (line.map Val.toV)) ∧ H' (.loc F) = some (.dict ep (dictS seen))
theorem sp_reachable (R : Rep σ H) (W : Wf σ) (C : Cl σ)
    (q : ∀ N H' seen ep, RI σ seen [] → Rep σ H' → Lk H H' → H (.loc N) = none → H' (.loc N) = some (.dict ep (dictS seen)) → Q (.obj (.loc N)) H') : callP tab (k + 2) "reachable" [.obj .root] Q H := by
  refine c_fn rfl rfl ?_
  unfold b_reachable
  refine s_assign (i_dict (new_dict R fun F H1 R1 L1 hF e1 => ?_))
  walk_at "mw"
  refine vars_comp R1 W rfl ?_
  refine new_loc R1 _ fun N H2 R2 L2 hN e2 => ?_
  have e2' : H2 (.loc N) = some (.list ((σ.vars.map (·.2)).map Val.toV)) := by rw [e2, Hp.set_self]
  clear e2
  have hFN : F ≠ N := fun e => by subst e; rw [e1] at hN; cases hN
  have hN0 := L1.none hN
  have Lstart : ∀ k o, H (.loc k) = some o → k ≠ F ∧ k ≠ N := fun k o e => ⟨fun z => (by subst z; rw [hF] at e; cases e), fun z => (by subst z; rw [hN0] at e; cases e)⟩
  obtain ⟨m0, hm0⟩ := RL.zero W
  obtain ⟨I, hI0⟩ : ∃ I : Nat → Env → Hp → Prop, I = fun m ρ' H' => ρ' "heap" = some (.obj .root) ∧ ρ' "waiting" = some (.obj (.loc N)) ∧ ρ' "found" = some (.obj (.loc F)) ∧ RLP σ H N F m H' := ⟨_, rfl⟩
  refine s_while I m0 (by rw [hI0]; exact ⟨rfl, rfl, rfl, [], _, 0, hm0, R2, L1.trans L2, e2', L2 _ _ e1⟩) ?_
  intro m' ρ' H' h
  rw [hI0] at h
  obtain ⟨h1, h2, h3, seen, line, ep, hI, R', L', hN', hF'⟩ := h
  by_cases he : line = []
  · subst he
    exact i_var h2 (t_f (truL hN') (s_ret (i_var h3 (r_ret (q F H' seen ep hI.1 R' L' hF hF')))))
  · obtain ⟨w, v, rfl⟩ := list_end line he
    have hlen := hI.len
    rw [List.length_append, List.length_singleton] at hlen
    refine i_var h2 (t_t (truS hN') ?_)
    refine s_assign (i_methL (i := .loc N) (fun _ p => i_var h2 p) hN' rfl (i_nil (pop_vals hN' ?_)))
    have R3 := R'.loc N (.list (w.map Val.toV))
    have L3 : Lk H (H'.set (.loc N) (.list (w.map Val.toV))) := fun k o e => by
      have z := (Lstart k o e).2
      rw [Hp.sl z]; exact L' k o e
    have e3 : (H'.set (.loc N) (.list (w.map Val.toV))) (.loc N) = some (.list (w.map Val.toV)) := Hp.set_self _ _ _
    have f3 : (H'.set (.loc N) (.list (w.map Val.toV))) (.loc F) = some (.dict ep (dictS seen)) := by rw [Hp.sl hFN]; exact hF'
    generalize H'.set (.loc N) (.list (w.map Val.toV)) = H3 at R3 L3 e3 f3 ⊢
    obtain ⟨ρ1, hρ1⟩ : ∃ ρ1, ρ1 = ρ'.upd "value" v.toV := ⟨_, rfl⟩
    rw [← hρ1]
    have v1 : ρ1 "heap" = some (.obj .root) := by rw [hρ1]; exact h1
    have v2 : ρ1 "waiting" = some (.obj (.loc N)) := by rw [hρ1]; exact h2
    have v3 : ρ1 "found" = some (.obj (.loc F)) := by rw [hρ1]; exact h3
    have v4 : ρ1 "value" = some v.toV := by rw [hρ1]; rfl
    clear hρ1
    cases v with
    | int i =>
      obtain ⟨m2, hm2, hI2⟩ := hI.skip fun n e => by cases e
      refine s_if (i_band (i_and (i_cmp (i_idx (i_var v4 (i_int ⟨_, idx0, i_str (k_eqs (t := false) (by decide) (t_f rfl (t_f rfl (s_nil ?_))))⟩))))))
      refine s_seq (s_nil (lp_next m2 hm2 ?_))
      rw [hI0]
      exact ⟨v1, v2, v3, ⟨seen, w, ep, hI2, R3, L3, e3, f3⟩⟩
    | cell n =>
      refine s_if (i_band (i_and (i_cmp (i_idx (i_var v4 (i_int ⟨_, idx0, i_str (k_eqs (t := true) (by decide) (t_t rfl (i_and1 (i_cmp (i_idx (i_var v4 (i_int ⟨_, idx1, i_var v3 ?_⟩)))))))⟩))))))
      by_cases hn : n ∈ seen
      · obtain ⟨m2, hm2, hI2⟩ := hI.skip fun n' e => by cases e; exact hn
        refine k_ninD (t := false) f3 (by rw [hasK_dictS, decide_eq_true hn]; rfl) (t_f rfl (s_nil (s_seq (s_nil (lp_next m2 hm2 ?_)))))
        rw [hI0]
        exact ⟨v1, v2, v3, ⟨seen, w, ep, hI2, R3, L3, e3, f3⟩⟩
      · obtain ⟨hk, hs, m2, hm2, hI2⟩ := hI.new C W hn
        refine k_ninD (t := true) f3 (by rw [hasK_dictS, decide_eq_false hn]; rfl) (t_t rfl ?_)
        refine s_idx (i_bool (i_var v3 (i_idx (i_var v4 (i_int ⟨_, idx1, ⟨H3.set (.loc F) (.dict (ep + 1) (dictS (seen ++ [n]))), ?_, ?_⟩⟩)))))
        · rw [puti_set f3 (putK_dictS hn) (by rw [dictS, List.length_map, List.length_append, List.length_singleton]; unfold LIM; lia), hasK_dictS, decide_eq_false hn]; rfl
        have R4 := R3.loc F (.dict (ep + 1) (dictS (seen ++ [n])))
        have L4 : Lk H (H3.set (.loc F) (.dict (ep + 1) (dictS (seen ++ [n])))) := fun k o e => by
          have z := (Lstart k o e).1
          rw [Hp.sl z]; exact L3 k o e
        have e4 : (H3.set (.loc F) (.dict (ep + 1) (dictS (seen ++ [n])))) (.loc N) = some (.list (w.map Val.toV)) := by rw [Hp.sl (Ne.symm hFN)]; exact e3
        have f4 : (H3.set (.loc F) (.dict (ep + 1) (dictS (seen ++ [n])))) (.loc F) = some (.dict (ep + 1) (dictS (seen ++ [n]))) := Hp.set_self _ _ _
        generalize H3.set (.loc F) (.dict (ep + 1) (dictS (seen ++ [n]))) = H4 at R4 L4 e4 f4 ⊢
        refine s_expr (i_methL (i := .loc N) (fun _ p => i_var v2 p) e4 rfl ?_)
        walk_at "mw"
        refine sp_held_by (k := k) R4 W hk fun M H5 R5 L5 hM e5 => ?_
        have hv := hvals_len W hk
        refine i_nil (ext_vals (L5 N _ e4) e5 (by lia) ?_)
        refine s_nil (s_seq (s_nil (lp_next m2 hm2 ?_)))
        rw [hI0]
        refine ⟨v1, v2, v3, _, _, ep + 1, hI2, R5.loc _ _, fun k o e => ?_, Hp.set_self _ _ _, ?_⟩
        · rw [Hp.sl ((Lstart k o e).2)]; exact (L4.trans L5) k o e
        · rw [Hp.sl hFN]; exact L5 F _ f4
end
end Mine
end
noncomputable section
namespace Mine
open PySem PySem.W PyProof.Rows
section
variable {σ : St} {H : Hp} {k b : Nat} {Q : V → Hp → Prop}
theorem dat_val (m : Nat) (v : Val) : ∃ d, dat (m + 2) H v.toV = some d := by
  cases v with
  | int i => exact ⟨.tup [.str "int", .int i], rfl⟩
  | cell n => exact ⟨.tup [.str "cell", .int n], rfl⟩
theorem optAll_some {α : Type} (l : List (Option α)) : (∀ x ∈ l, ∃ a, x = some a) → ∃ r, optAll l = some r ∧ r.length = l.length := by
  induction l with
  | nil => exact fun _ => ⟨[], rfl, rfl⟩
  | cons x r ih =>
    intro h
    obtain ⟨a, ha⟩ := h x (List.mem_cons_self ..)
    obtain ⟨t, ht, hl⟩ := ih fun y hy => h y (List.mem_cons_of_mem _ hy)
    subst ha
    exact ⟨a :: t, (show Option.map (a :: ·) (optAll r) = _ by rw [ht]; rfl), congrArg (· + 1) hl⟩
theorem dat_vals {N : Nat} {w : List Val} (h : H (.loc N) = some (.list (w.map Val.toV))) : ∃ r, dat 8 H (.obj (.loc N)) = some (.list r) ∧ r.length = w.length := by
  obtain ⟨r, hr, hl⟩ := optAll_some ((w.map Val.toV).map (dat 7 H)) fun x hx => by
    obtain ⟨v, hv, rfl⟩ := List.mem_map.mp hx
    obtain ⟨u, hu, rfl⟩ := List.mem_map.mp hv
    exact dat_val 5 u
  refine ⟨r, (listP_at h).trans (by rw [hr]; rfl), by rw [hl, List.length_map, List.length_map]⟩
theorem beq_nil {r : List D} : D.beq (.list r) (.list []) = r.isEmpty := by
  cases r <;> rfl
theorem sp_law_reached (R : Rep σ H) (W : Wf σ) (C : Cl σ) (h60 : σ.keys.length ≤ 60)
    (q : ∀ N H', Rep σ H' → Lk H H' → H (.loc N) = none → H' (.loc N) = some (.list ((here σ).map V.int)) → Q (.obj (.loc N)) H') : callP tab (k + 1) "_law_reached" [.obj .root] Q H := by
  refine c_fn rfl rfl ?_
  unfold b_law_reached
  have ev : ((σ.vars.map sv).map fun p => p.2) = ((σ.vars.map (·.2)).map Val.toV) := by simp
  walk_at "mw"
  refine w_values R.vars ?_
  rw [ev]
  refine new_loc R _ fun N H1 R1 L1 hN e1 => ?_
  have e1' : H1 (.loc N) = some (.list ((σ.vars.map (·.2)).map Val.toV)) := by rw [e1, Hp.set_self]
  clear e1
  refine s_assign (i_dict (new_dict R1 fun F H2 R2 L2 hF e2 => ?_))
  have e2' := L2 N _ e1'
  have hFN : F ≠ N := fun e => by subst e; rw [e1'] at hF; cases hF
  have hF0 := L1.none hF
  have Lstart : ∀ k o, H (.loc k) = some o → k ≠ F ∧ k ≠ N := fun k o e => ⟨fun z => (by subst z; rw [hF0] at e; cases e), fun z => (by subst z; rw [hN] at e; cases e)⟩
  obtain ⟨m0, hm0⟩ := RL.zero W
  obtain ⟨I, hI0⟩ : ∃ I : Nat → Env → Hp → Prop, I = fun m ρ' H' => ρ' "heap" = some (.obj .root) ∧ ρ' "line" = some (.obj (.loc N)) ∧ ρ' "seen" = some (.obj (.loc F)) ∧ RLP σ H N F m H' := ⟨_, rfl⟩
  refine s_while I m0 (by rw [hI0]; exact ⟨rfl, rfl, rfl, [], _, 0, hm0, R2, L1.trans L2, e2', e2⟩) ?_
  intro m' ρ' H0 h
  rw [hI0] at h
  obtain ⟨h1, h2, h3, seen, line, ep, hI, R0, L0, hN0, hF0'⟩ := h
  refine i_cmp (i_var h2 (i_list (i_nil ?_)))
  refine new_loc R0 [] fun E H' R' LE hE eE => ?_
  have eE' : H' (.loc E) = some (.list []) := by rw [eE, Hp.set_self]
  clear eE
  have L' := L0.trans LE
  have hN' := LE _ _ hN0
  have hF' := LE _ _ hF0'
  obtain ⟨r, hr, hrl⟩ := dat_vals hN'
  have hdE : dat 8 H' (.obj (.loc E)) = some (.list []) := listP_at eE'
  refine ⟨_, _, hr, hdE, ?_⟩
  rw [beq_nil]
  by_cases he : line = []
  · subst he
    have : r = [] := by simpa using hrl
    subst this
    have hs := hI.1.sorted C W
    have hl : seen.length ≤ σ.keys.length := hI.1.nd.length_le_of_subset fun x hx => (hI.1.liv x hx).key C
    have hk : (dictS seen).map (·.1) = seen := by unfold dictS; rw [List.map_map]; exact List.map_id _
    refine t_f rfl (s_ret (i_blt (i_var h3 (w_sortedD hF' (by simp only [dictS, List.length_map]; lia) ?_))))
    rw [hk, hs]
    refine new_loc R' _ fun M H2 R2 L2 hM e2 => ?_
    exact r_ret (q M H2 R2 (L'.trans L2) (L'.none hM) (by rw [e2, Hp.set_self]))
  · have hre : (!r.isEmpty) = true := by
      have : r ≠ [] := fun e => he (by rw [e] at hrl; exact List.length_eq_zero_iff.mp (by simpa using hrl.symm))
      simpa using this
    rw [hre]
    refine t_t rfl ?_
    obtain ⟨w, v, rfl⟩ := list_end line he
    have hlen := hI.len
    rw [List.length_append, List.length_singleton] at hlen
    refine s_assign (i_methL (i := .loc N) (fun _ p => i_var h2 p) hN' rfl (i_nil (pop_vals hN' ?_)))
    have R3 := R'.loc N (.list (w.map Val.toV))
    have L3 : Lk H (H'.set (.loc N) (.list (w.map Val.toV))) := fun k o e => by
      have z := (Lstart k o e).2
      rw [Hp.sl z]; exact L' k o e
    have e3 : (H'.set (.loc N) (.list (w.map Val.toV))) (.loc N) = some (.list (w.map Val.toV)) := Hp.set_self _ _ _
    have f3 : (H'.set (.loc N) (.list (w.map Val.toV))) (.loc F) = some (.dict ep (dictS seen)) := by rw [Hp.sl hFN]; exact hF'
    generalize H'.set (.loc N) (.list (w.map Val.toV)) = H3 at R3 L3 e3 f3 ⊢
    obtain ⟨ρ1, hρ1⟩ : ∃ ρ1, ρ1 = ρ'.upd "value" v.toV := ⟨_, rfl⟩
    rw [← hρ1]
    have v1 : ρ1 "heap" = some (.obj .root) := by rw [hρ1]; exact h1
    have v2 : ρ1 "line" = some (.obj (.loc N)) := by rw [hρ1]; exact h2
    have v3 : ρ1 "seen" = some (.obj (.loc F)) := by rw [hρ1]; exact h3
    have v4 : ρ1 "value" = some v.toV := by rw [hρ1]; rfl
    clear hρ1
    cases v with
    | int i =>
      obtain ⟨m2, hm2, hI2⟩ := hI.skip fun n e => by cases e
      refine s_if (i_band (i_and (i_cmp (i_idx (i_var v4 (i_int ⟨_, idx0, i_str (k_eqs (t := false) (by decide) (t_f rfl (t_f rfl (s_nil ?_))))⟩))))))
      refine s_seq (s_nil (lp_next m2 hm2 ?_))
      rw [hI0]
      exact ⟨v1, v2, v3, ⟨seen, w, ep, hI2, R3, L3, e3, f3⟩⟩
    | cell n =>
      refine s_if (i_band (i_and (i_cmp (i_idx (i_var v4 (i_int ⟨_, idx0, i_str (k_eqs (t := true) (by decide) (t_t rfl (i_and1 (i_cmp (i_idx (i_var v4 (i_int ⟨_, idx1, i_var v3 ?_⟩)))))))⟩))))))
      by_cases hn : n ∈ seen
      · obtain ⟨m2, hm2, hI2⟩ := hI.skip fun n' e => by cases e; exact hn
        refine k_ninD (t := false) f3 (by rw [hasK_dictS, decide_eq_true hn]; rfl) (t_f rfl (s_nil (s_seq (s_nil (lp_next m2 hm2 ?_)))))
        rw [hI0]
        exact ⟨v1, v2, v3, ⟨seen, w, ep, hI2, R3, L3, e3, f3⟩⟩
      · obtain ⟨hk, hs, m2, hm2, hI2⟩ := hI.new C W hn
        refine k_ninD (t := true) f3 (by rw [hasK_dictS, decide_eq_false hn]; rfl) (t_t rfl ?_)
        refine s_idx (i_bool (i_var v3 (i_idx (i_var v4 (i_int ⟨_, idx1, ⟨H3.set (.loc F) (.dict (ep + 1) (dictS (seen ++ [n]))), ?_, ?_⟩⟩)))))
        · rw [puti_set f3 (putK_dictS hn) (by rw [dictS, List.length_map, List.length_append, List.length_singleton]; unfold LIM; lia), hasK_dictS, decide_eq_false hn]; rfl
        have R4 := R3.loc F (.dict (ep + 1) (dictS (seen ++ [n])))
        have L4 : Lk H (H3.set (.loc F) (.dict (ep + 1) (dictS (seen ++ [n])))) := fun k o e => by
          have z := (Lstart k o e).1
          rw [Hp.sl z]; exact L3 k o e
        have e4 : (H3.set (.loc F) (.dict (ep + 1) (dictS (seen ++ [n])))) (.loc N) = some (.list (w.map Val.toV)) := by rw [Hp.sl (Ne.symm hFN)]; exact e3
        have f4 : (H3.set (.loc F) (.dict (ep + 1) (dictS (seen ++ [n])))) (.loc F) = some (.dict (ep + 1) (dictS (seen ++ [n]))) := Hp.set_self _ _ _
        generalize H3.set (.loc F) (.dict (ep + 1) (dictS (seen ++ [n]))) = H4 at R4 L4 e4 f4 ⊢
        have hsl := R4.slots n hk
        have ev2 : (((σ.slots n).map sv).map fun p => p.2) = (hvals σ n).map Val.toV := by simp [hvals]
        refine s_expr (i_methL (i := .loc N) (fun _ p => i_var v2 p) e4 rfl ?_)
        walk_at "mw"
        refine w_values hsl ?_
        rw [ev2]
        refine new_loc R4 _ fun M H5 R5 L5 hM e5 => ?_
        have e5' : H5 (.loc M) = some (.list ((hvals σ n).map Val.toV)) := by rw [e5, Hp.set_self]
        have hv := hvals_len W hk
        refine i_nil (ext_vals (L5 N _ e4) e5' (by lia) ?_)
        refine s_nil (s_seq (s_nil (lp_next m2 hm2 ?_)))
        rw [hI0]
        refine ⟨v1, v2, v3, _, _, ep + 1, hI2, R5.loc _ _, fun k o e => ?_, Hp.set_self _ _ _, ?_⟩
        · rw [Hp.sl ((Lstart k o e).2)]; exact (L4.trans L5) k o e
        · rw [Hp.sl hFN]; exact L5 F _ f4
theorem sp_plain_collect (R : Rep σ H) (W : Wf σ) (C : Cl σ) (h60 : σ.keys.length ≤ 60)
    (q : ∀ N H', Rep σ H' → Lk H H' → H (.loc N) = none → H' (.loc N) = some (.list ((gone σ).map V.int)) → Q (.obj (.loc N)) H') : callP tab (k + 3) "plain_collect" [.obj .root] Q H := by
  refine c_fn rfl rfl ?_
  unfold b_plain_collect
  walk_at "mw"
  refine sp_reachable (k := k) R W C fun F H1 seen ep hI R1 L1 hF e1 => ?_
  walk_at "mw"
  refine comp_pure (onInt fun n => !liveB σ n) id (items := σ.keys.map V.int) (keep := some .cellsD) ?_ ?_ ?_ ?_
  · exact R1.src_cells
  · intro it hit Q' q'
    obtain ⟨a, ha, rfl⟩ := List.mem_map.mp hit
    simp only [onInt] at q'
    have e : decide (a ∈ seen) = liveB σ a := by rw [Bool.eq_iff_iff, decide_eq_true_eq, hI.end, liveB_iff]
    walk_at "mw"
    refine k_ninD (t := !liveB σ a) e1 (by rw [hasK_dictS, e]) ?_
    cases z : liveB σ a
    · rw [z] at q'; walk_at "mw"; exact q'
    · rw [z] at q'; walk_at "mw"; exact q'
  · intro it hit h Q' q'
    obtain ⟨a, ha, rfl⟩ := List.mem_map.mp hit
    walk_at "mw"
    exact q'
  rw [filter_ints σ.keys (fun n => !liveB σ n) _ fun n => rfl]
  refine new_loc R1 _ fun N H2 R2 L2 hN e2 => ?_
  have e2' : H2 (.loc N) = some (.list ((σ.keys.filter fun n => !liveB σ n).map V.int)) := by rw [e2, Hp.set_self]
  walk_at "mw"
  refine w_sortedL e2' (intsOf_ints _) (Nat.le_trans (List.length_filter_le _ _) h60) ?_
  refine new_loc R2 _ fun P H3 R3 L3 hP e3 => ?_
  walk_at "mw"
  exact q P H3 R3 ((L1.trans L2).trans L3) ((L1.trans L2).none hP) (by rw [e3, Hp.set_self]; rfl)
end
end Mine
end
noncomputable section
namespace Mine
open PySem PySem.W PyProof.Rows
section
variable {σ : St} {H : Hp} {k b : Nat} {Q : V → Hp → Prop}
noncomputable def allVals (σ : St) : List Val := σ.vars.map (·.2) ++ σ.keys.flatMap (hvals σ)
theorem allVals_refs (x : Int) : ((cellsOf (allVals σ)).count x : Int) = refs σ x := by
  unfold allVals refs
  rw [cellsOf_app, List.count_append]
  have := flat_pc (σ := σ) σ.keys x
  unfold pc at this
  unfold vcells
  lia
theorem sp_all_held (R : Rep σ H) (W : Wf σ)
    (q : ∀ N H', Rep σ H' → Lk H H' → H (.loc N) = none → H' (.loc N) = some (.list ((allVals σ).map Val.toV)) → Q (.obj (.loc N)) H') : callP tab (k + 1) "all_held" [.obj .root] Q H := by
  refine c_fn rfl rfl ?_
  unfold b_all_held
  walk_at "mw"
  refine vars_comp R W rfl ?_
  refine new_loc R _ fun N H1 R1 L1 hN e1 => ?_
  have e1' : H1 (.loc N) = some (.list ((σ.vars.map (·.2)).map Val.toV)) := by rw [e1, Hp.set_self]
  clear e1
  walk_at "mw"
  obtain ⟨I, hI0⟩ : ∃ I : Nat → Env → Hp → Prop, I = fun j ρ' H' => ρ' "heap" = some (.obj .root) ∧ ρ' "found" = some (.obj (.loc N)) ∧ Rep σ H' ∧ LkX N H1 H' ∧ H' (.loc N) = some (.list ((σ.vars.map (·.2) ++ (σ.keys.take j).flatMap (hvals σ)).map Val.toV)) := ⟨_, rfl⟩
  refine for_i (items := σ.keys.map V.int) (keep := some .cellsD) I (R1.src_cells) (by rw [hI0]; exact ⟨rfl, rfl, R1, LkX.refl _ _, by simpa using e1'⟩) ?_ ?_ ?_
  · intro j ρ' H' h
    rw [hI0] at h
    obtain ⟨_, _, R', _, _⟩ := h
    show H' .cellsD = H1 .cellsD
    rw [R'.cells, R1.cells]
  · intro j ρ' H2 it hit h
    rw [hI0] at h
    obtain ⟨g1, g2, R2, L2, e2⟩ := h
    obtain ⟨a, ha, rfl, ht, hj, hja⟩ := int_items hit
    have hpre : (σ.vars.map (·.2) ++ (σ.keys.take j).flatMap (hvals σ)).length ≤ 200 + 200 * 200 := by
      have h1 := flat_take_len W (l := σ.keys.take j) fun n hn => (List.take_sublist j σ.keys).subset hn
      have h2 : (σ.keys.take j).length ≤ 200 := Nat.le_trans (by simp; lia) W.nkeys
      have h3 := W.nvars
      rw [List.length_append, List.length_map]; lia
    have hflat : σ.vars.map (·.2) ++ (σ.keys.take (j + 1)).flatMap (hvals σ) = (σ.vars.map (·.2) ++ (σ.keys.take j).flatMap (hvals σ)) ++ hvals σ a := by rw [ht, List.flatMap_append]; simp
    have hnext : ∀ ρ3 H3, ρ3 "heap" = some (.obj .root) → ρ3 "found" = some (.obj (.loc N)) → Rep σ H3 → LkX N H1 H3 → H3 (.loc N) = some (.list (((σ.vars.map (·.2) ++ (σ.keys.take j).flatMap (hvals σ)) ++ hvals σ a).map Val.toV)) → I (j + 1) ρ3 H3 := fun ρ3 H3 x1 x2 x3 x4 x5 => by
      rw [hI0]; dsimp only; exact ⟨x1, x2, x3, x4, by rw [hflat]; exact x5⟩
    generalize σ.vars.map (·.2) ++ (σ.keys.take j).flatMap (hvals σ) = pre at e2 hpre hnext
    refine ⟨_, rfl, ?_⟩
    walk_at "mw"
    have hslot := R2.slots a ha
    obtain ⟨I2, hI2⟩ : ∃ I : Nat → Env → Hp → Prop, I = fun i ρ' H' => ρ' "heap" = some (.obj .root) ∧ ρ' "found" = some (.obj (.loc N)) ∧ ρ' "cell" = some (.obj (.cell a)) ∧ Rep σ H' ∧ LkX N H2 H' ∧ H' (.loc N) = some (.list ((pre ++ (hvals σ a).take i).map Val.toV)) := ⟨_, rfl⟩
    refine for_i (items := ((σ.slots a).map sv).map (fun p => .int p.1)) (keep := some (.slots a)) I2 (srcD hslot) (by rw [hI2]; exact ⟨g1, g2, rfl, R2, LkX.refl _ _, by simpa using e2⟩) ?_ ?_ ?_
    · intro i ρ' H' h
      rw [hI2] at h
      obtain ⟨_, _, _, R', _, _⟩ := h
      show H' (.slots a) = H2 (.slots a)
      rw [R'.slots a ha, hslot]
    · intro i ρ3 H3 it hit h
      rw [hI2] at h
      obtain ⟨g1, g2, g3, R3, L3, e3⟩ := h
      have hi : i < (σ.slots a).length := by
        have := (List.getElem?_eq_some_iff.mp hit).1; simpa using this
      have hit' : it = .int ((σ.slots a)[i]).1 := by
        rw [List.getElem?_map, List.getElem?_map, List.getElem?_eq_getElem hi] at hit
        simpa using hit.symm
      subst hit'
      have hlk : (σ.slots a).lookup ((σ.slots a)[i]).1 = some ((σ.slots a)[i]).2 := lookup_nd (W.nds a ha) (List.getElem_mem hi)
      have hti : (hvals σ a).take (i + 1) = (hvals σ a).take i ++ [((σ.slots a)[i]).2] := by
        unfold hvals
        rw [List.take_add_one, List.getElem?_map, List.getElem?_eq_getElem hi]; rfl
      have hvl : ((hvals σ a).take i).length ≤ 200 := Nat.le_trans (by simp; lia) (hvals_len W ha)
      refine ⟨_, rfl, ?_⟩
      refine s_expr (i_methL (i := .loc N) (fun _ p => i_var g2 p) e3 rfl (i_cons (i_idx (i_attr (i_var g3 ⟨_, R3.c_slots ha, i_var rfl ⟨_, R3.i_slots ha hlk, i_nil ?_⟩⟩)))))
      refine l_app e3 (by rw [List.length_map, List.length_append]; unfold LIM; lia) (s_nil (tn_next ?_))
      rw [hI2]; dsimp only; rw [hti]
      refine ⟨g1, g2, g3, R3.loc _ _, L3.trans (LkX.set _ _ _), ?_⟩
      rw [Hp.set_self]; simp
    · intro ρ3 H3 h
      rw [hI2] at h
      obtain ⟨g1, g2, g3, R3, L3, e3⟩ := h
      refine s_nil (tn_next (hnext ρ3 H3 g1 g2 R3 (L2.trans L3) ?_))
      rw [e3]
      congr 3
      rw [List.take_of_length_le (by simp [hvals])]
  intro ρ2 H2 h
  rw [hI0] at h
  obtain ⟨g1, g2, R2, L2, e2⟩ := h
  rw [List.length_map, List.take_length] at e2
  walk_at "mw"
  refine for_i (items := []) (keep := some .tablesL) (fun j ρ' H' => H' = H2 ∧ ρ' "found" = some (.obj (.loc N))) (srcL R2.tables) ⟨rfl, g2⟩ ?_ ?_ ?_
  · rintro j ρ' H' ⟨rfl, _⟩; rfl
  · rintro j ρ' H' it h; simp at h
  · rintro ρ' H' ⟨rfl, e⟩
    exact s_ret (i_var e (r_ret (q N _ R2 (LkX.back L1 hN L2) hN e2)))
theorem sp_counts_right (R : Rep σ H) (W : Wf σ) (C : Cl σ) (B : Bal σ [])
    (q : ∀ H', Rep σ H' → Lk H H' → Q (.bool true) H') : callP tab (k + 2) "counts_right" [.obj .root] Q H := by
  refine c_fn rfl rfl ?_
  unfold b_counts_right
  refine s_assign (i_dict (new_dict R fun N H1 R1 L1 hN e1 => ?_))
  walk_at "mw"
  refine init_for (D := "counts") (items := σ.keys) (keep := some .cellsD) (by decide) (R1.src_cells) e1 W.ndk (by have := W.nkeys; lia) (fun i e => by cases e; simp) rfl fun ρ2 H2 e2 hρ2 => ?_
  have R2 : Rep σ H2 := e2 ▸ R1.loc N _
  have L2 : LkX N H1 H2 := e2 ▸ LkX.set N H1 _
  have d2 : H2 (.loc N) = some (.dict σ.keys.length (cntD σ.keys [])) := by rw [e2, Hp.set_self]
  clear e2
  have b1 : ρ2 "heap" = some (.obj .root) := (hρ2 _ (by decide)).trans rfl
  have b3 : ρ2 "counts" = some (.obj (.loc N)) := (hρ2 _ (by decide)).trans rfl
  clear hρ2
  have L02 := LkX.back L1 hN L2
  walk_at "mw"
  refine sp_all_held (k := k) R2 W fun M H3 R3 L3 hM e3 => ?_
  have d3 := L3 N _ d2
  have hNM : N ≠ M := fun e => by subst e; rw [d2] at hM; cases hM
  have hok : ∀ v ∈ allVals σ, okV σ v := fun v hv => by
    rcases List.mem_append.mp hv with h | h
    · obtain ⟨p, hp, rfl⟩ := List.mem_map.mp h
      exact C.vars p hp
    · obtain ⟨n, hn, h2⟩ := List.mem_flatMap.mp h
      obtain ⟨p, hp, rfl⟩ := List.mem_map.mp h2
      exact C.slots n hn p hp
  have hkl := W.nkeys
  obtain ⟨I, hI0⟩ : ∃ I : Nat → Env → Hp → Prop, I = fun j ρ' H' => ρ' "heap" = some (.obj .root) ∧ ρ' "counts" = some (.obj (.loc N)) ∧ Rep σ H' ∧ LkX N H3 H' ∧ ∃ ep, H' (.loc N) = some (.dict ep (cntD σ.keys (cellsOf ((allVals σ).take j)))) := ⟨_, rfl⟩
  refine for_i (items := (allVals σ).map Val.toV) (keep := some (.loc M)) I (srcL e3) (by rw [hI0]; exact ⟨b1, b3, R3, LkX.refl _ _, _, d3⟩) ?_ ?_ ?_
  · intro j ρ' H' h
    rw [hI0] at h
    obtain ⟨_, _, _, L, _⟩ := h
    show H' (.loc M) = H3 (.loc M)
    rw [e3]; exact L M _ (Ne.symm hNM) e3
  · intro j ρ4 H4 it hit h
    rw [hI0] at h
    obtain ⟨g1, g2, R4, L4, ep, d4⟩ := h
    have hj : j < (allVals σ).length := by
      have := (List.getElem?_eq_some_iff.mp hit).1; simpa using this
    have hit' : it = ((allVals σ)[j]).toV := by
      rw [List.getElem?_map, List.getElem?_eq_getElem hj] at hit
      simpa using hit.symm
    have hm := hok _ (List.getElem_mem hj)
    have ht : (allVals σ).take (j + 1) = (allVals σ).take j ++ [(allVals σ)[j]] := by
      rw [List.take_add_one, List.getElem?_eq_getElem hj]; rfl
    have hnext : ∀ ρ5 H5 ep, ρ5 "heap" = some (.obj .root) → ρ5 "counts" = some (.obj (.loc N)) → Rep σ H5 → LkX N H3 H5 → H5 (.loc N) = some (.dict ep (cntD σ.keys (cellsOf ((allVals σ).take j) ++ cellsOf [(allVals σ)[j]]))) → I (j + 1) ρ5 H5 := fun ρ5 H5 ep x1 x2 x3 x4 x5 => by
      rw [hI0]; dsimp only; rw [ht, cellsOf_app]; exact ⟨x1, x2, x3, x4, ep, x5⟩
    generalize (allVals σ)[j] = v at hit' hm hnext
    generalize cellsOf ((allVals σ).take j) = acc at d4 hnext
    subst hit'
    refine ⟨_, rfl, ?_⟩
    obtain ⟨ρ1, hρ1⟩ : ∃ ρ1, ρ1 = ρ4.upd "value" v.toV := ⟨_, rfl⟩
    rw [← hρ1]
    have v1 : ρ1 "heap" = some (.obj .root) := by rw [hρ1]; exact g1
    have v2 : ρ1 "counts" = some (.obj (.loc N)) := by rw [hρ1]; exact g2
    have v4 : ρ1 "value" = some v.toV := by rw [hρ1]; rfl
    clear hρ1
    cases v with
    | int i =>
      refine s_if (i_cmp (i_idx (i_var v4 (i_int ⟨_, idx0, i_str (k_eqs (t := false) (by decide) (t_f rfl (s_nil (s_seq (s_nil (tn_next ?_))))))⟩))))
      refine hnext ρ1 H4 ep v1 v2 R4 L4 ?_
      have e : cellsOf [Val.int i] = [] := rfl
      rw [e, List.append_nil]; exact d4
    | cell n =>
      have e : cellsOf [Val.cell n] = [n] := rfl
      rw [e] at hnext
      have hn : n ∈ σ.keys := hm
      refine s_if (i_cmp (i_idx (i_var v4 (i_int ⟨_, idx0, i_str (k_eqs (t := true) (by decide) (t_t rfl ?_))⟩))))
      refine s_if (i_cmp (i_idx (i_var v4 (i_int ⟨_, idx1, i_var v2 (k_ninD (t := false) d4 (by rw [hasK_cntD]; simp [hn]) (t_f rfl (s_nil (s_seq ?_))))⟩))))
      refine s_augIdx (i_var v2 (i_idx (i_var v4 (i_int ⟨_, idx1, ⟨((acc.count n : Nat) : Int), idx_of d4 (getK_cntD hn), i_int (b_addi ⟨H4.set (.loc N) (.dict (if hasK (cntD σ.keys acc) n then ep else ep + 1) (cntD σ.keys (acc ++ [n]))), ?_, ?_⟩)⟩⟩))))
      · exact puti_set d4 (putK_cntD hn) (by rw [cntD, List.length_map]; unfold LIM; lia)
      · exact s_nil (s_seq (s_nil (tn_next (hnext ρ1 _ _ v1 v2 (R4.loc _ _) (L4.trans (LkX.set _ _ _)) (Hp.set_self _ _ _)))))
  intro ρ4 H4 h
  rw [hI0] at h
  obtain ⟨g1, g2, R4, L4, ep, d4⟩ := h
  rw [List.length_map, List.take_length] at d4
  have LE : Lk H H4 := by
    intro k o e
    have z : k ≠ N := fun z => by subst z; rw [hN] at e; cases e
    exact L4 k o z ((L02.trans L3) k o e)
  have hkm : (cntD σ.keys (cellsOf (allVals σ))).map (fun p => V.int p.1) = σ.keys.map V.int := by
    unfold cntD; rw [List.map_map]; rfl
  refine s_for (i_var g2 ?_)
  refine for_i (items := σ.keys.map V.int) (keep := some (.loc N)) (fun j ρ' H' => ρ' "heap" = some (.obj .root) ∧ ρ' "counts" = some (.obj (.loc N)) ∧ H' = H4) ((srcD d4).trans (by rw [hkm])) ⟨g1, g2, rfl⟩ ?_ ?_ ?_
  · rintro j ρ' H' ⟨_, _, rfl⟩; rfl
  · rintro j ρ5 H5 it hit ⟨g1, g2, rfl⟩
    obtain ⟨a, ha, rfl, ht, hj, hja⟩ := int_items hit
    refine ⟨_, rfl, ?_⟩
    have hcn : σ.count a = ((cellsOf (allVals σ)).count a : Int) := by rw [allVals_refs, B a ha, pc_nil]; lia
    walk_at "mw"
    refine ⟨.int ((cellsOf (allVals σ)).count a : Nat), idx_of d4 (getK_cntD ha), ?_⟩
    rw [hcn]
    refine ne_int rfl ?_
    walk_at "mw"
    exact ⟨g1, g2, rfl⟩
  · rintro ρ5 H5 ⟨g1, g2, rfl⟩
    walk_at "mw"
    exact q _ R4 LE
end
end Mine
end
noncomputable section
namespace Mine
open PySem PySem.W PyProof.Rows
noncomputable def valD : Val → D
  | .int i => .tup [.str "int", .int i]
  | .cell n => .tup [.str "cell", .int n]
noncomputable def slotD (p : Int × Val) : D := .tup [.int p.1, valD p.2]
noncomputable def elD (σ : St) (n : Int) : D := .tup [.int n, .str (σ.sort n), .list ((σ.slots n).map slotD)]
noncomputable def picD (σ : St) (ns : List Int) : D := .list (ns.map (elD σ))
theorem optAll_map {α β : Type} (l : List α) (f : α → β) : optAll (l.map fun a => some (f a)) = some (l.map f) := by
  induction l with
  | nil => rfl
  | cons a r ih => show Option.map (f a :: ·) (optAll _) = _; rw [ih]; rfl
theorem dat_toV (m : Nat) (H : Hp) (v : Val) : dat (m + 2) H v.toV = some (valD v) := by
  cases v <;> rfl
theorem dat_slot (m : Nat) (H : Hp) (p : Int × Val) : dat (m + 3) H (.tup [.int p.1, p.2.toV]) = some (slotD p) := by
  show (optAll [some (.int p.1), dat (m + 2) H p.2.toV]).map D.tup = _
  rw [dat_toV]; rfl
theorem dat_int (m : Nat) (H : Hp) (i : Int) : dat m H (.int i) = some (.int i) := by cases m <;> rfl
theorem dat_str (m : Nat) (H : Hp) (i : String) : dat m H (.str i) = some (.str i) := by cases m <;> rfl
theorem dat_listOf {H : Hp} {m : Nat} {i : Id} {xs : List V} (h : H i = some (.list xs)) : dat (m + 1) H (.obj i) = (optAll (xs.map (dat m H))).map .list := listP_at h
theorem dat_ints {H : Hp} {i : Id} {l : List Int} (h : H i = some (.list (l.map V.int))) : dat 8 H (.obj i) = some (.list (l.map .int)) := by
  rw [dat_listOf h, List.map_map]
  have : (l.map (dat 7 H ∘ V.int)) = l.map fun a => some (D.int a) := List.map_congr_left fun a _ => dat_int 7 H a
  rw [this, optAll_map]; rfl
theorem dat_items {H : Hp} {m : Nat} {i : Id} {es : List (Int × Val)} (h : H i = some (.list (es.map fun p => .tup [.int p.1, p.2.toV]))) : dat (m + 4) H (.obj i) = some (.list (es.map slotD)) := by
  rw [dat_listOf h, List.map_map]
  have : (es.map (dat (m + 3) H ∘ fun p => V.tup [.int p.1, p.2.toV])) = es.map fun a => some (slotD a) := List.map_congr_left fun a _ => dat_slot m H a
  rw [this, optAll_map]; rfl
section
variable {σ : St} {H : Hp} {k b : Nat} {Q : V → Hp → Prop}
theorem items_eq (es : List (Int × Val)) : (es.map sv).map (fun p => V.tup [.int p.1, p.2]) = es.map fun p => V.tup [.int p.1, p.2.toV] := by
  rw [List.map_map]; rfl
theorem sp_law_picture {ns : List Int} {M : Nat} (R : Rep σ H) (hM : H (.loc M) = some (.list (ns.map V.int))) (hk : ∀ n ∈ ns, n ∈ σ.keys)
    (q : ∀ N H', Rep σ H' → Lk H H' → (∀ H'', Lk H' H'' → dat 8 H'' (.obj (.loc N)) = some (picD σ ns)) → Q (.obj (.loc N)) H') : callP tab (k + 1) "_law_picture" [.obj .root, .obj (.loc M)] Q H := by
  refine c_fn rfl rfl ?_
  unfold b_law_picture
  refine s_ret (i_comp (i_var rfl ⟨ns.map V.int, some (.loc M), srcL hM, fun j acc H' => Rep σ H' ∧ Lk H H' ∧ acc.length ≤ j ∧ ∀ H'', Lk H' H'' → acc.map (dat 7 H'') = (ns.take j).map fun n => some (elD σ n), ⟨R, Lk.refl _, Nat.le_refl 0, fun _ _ => rfl⟩, ?_, ?_, ?_⟩))
  · rintro j acc H' ⟨R', L', hl, _⟩
    refine ⟨?_, hl⟩
    show H' (.loc M) = H (.loc M)
    rw [hM]; exact L' M _ hM
  · rintro j acc H' it hit ⟨R', L', hl, hd⟩
    obtain ⟨a, ha, rfl, ht, hj, hja⟩ := int_items hit
    have hak := hk a ha
    have hsl := R'.slots a hak
    refine i_c0 (it_t (i_tup (i_cons (i_var rfl (i_cons (i_attr (i_idx (i_attr (i_var rfl ⟨_, R'.r_cells, i_var rfl (⟨_, R'.i_cells hak, _, R'.c_sort hak, i_cons (i_blt (i_attr (i_idx (i_attr (i_var rfl ⟨_, R'.r_cells, i_var rfl (⟨_, R'.i_cells hak, _, R'.c_slots hak, w_items hsl (?_)⟩)⟩)))))⟩)⟩)))))))))
    rw [items_eq]
    refine new_loc R' _ fun N H1 R1 L1 hN e1 => i_nil ?_
    have e1' : H1 (.loc N) = some (.list ((σ.slots a).map fun p => V.tup [.int p.1, p.2.toV])) := by rw [e1, Hp.set_self]
    refine ⟨R1, L'.trans L1, by rw [List.length_append]; exact Nat.succ_le_succ hl, fun H'' L'' => ?_⟩
    rw [ht, List.map_append, List.map_append, hd H'' (L1.trans L'')]
    congr 1
    have h2 := L'' N _ e1'
    show [(optAll [some (.int a), some (.str (σ.sort a)), dat 6 H'' (.obj (.loc N))]).map D.tup] = _
    rw [dat_items (m := 2) h2]; rfl
  · rintro acc H' ⟨R', L', hl, hd⟩
    refine new_loc R' _ fun N H1 R1 L1 hN e1 => r_ret ?_
    refine q N H1 R1 (L'.trans L1) fun H'' L'' => ?_
    have h2 := L'' N _ (show H1 (.loc N) = some (.list acc) by rw [e1, Hp.set_self])
    rw [dat_listOf h2, hd H'' (L1.trans L''), List.length_map, List.take_length, optAll_map]; rfl
theorem dat_logE (m : Nat) (H : Hp) (e : LogE) : ∃ d, dat (m + 2) H e.toV = some d := by
  cases e with
  | copy a b => exact ⟨.tup [.str "copy", .int a, .int b], rfl⟩
  | free a => exact ⟨.tup [.str "free", .int a], rfl⟩
  | destruct a => exact ⟨.tup [.str "destruct", .int a], rfl⟩
theorem dat_log {i : Id} {l : List LogE} (h : H i = some (.list (l.map LogE.toV))) : ∃ d, dat 8 H (.obj i) = some d := by
  obtain ⟨r, hr, _⟩ := optAll_some ((l.map LogE.toV).map (dat 7 H)) fun x hx => by
    obtain ⟨v, hv, rfl⟩ := List.mem_map.mp hx
    obtain ⟨u, hu, rfl⟩ := List.mem_map.mp hv
    exact dat_logE 5 H u
  exact ⟨.list r, by rw [dat_listOf h, hr]; rfl⟩
theorem dat_same {i j : Id} {xs : List V} (h1 : H i = some (.list xs)) (h2 : H j = some (.list xs)) (m : Nat) : dat (m + 1) H (.obj i) = dat (m + 1) H (.obj j) := by
  rw [dat_listOf h1, dat_listOf h2]
theorem ne_same {x y : V} {d : D} (h1 : dat 8 H x = some d) (h2 : dat 8 H y = some d) (q : Q (.bool false) H) : cmpW .ne x y Q H :=
  ⟨d, d, h1, h2, by rw [D.beq_self]; exact q⟩
theorem eq_same {x y : V} {d : D} (h1 : dat 8 H x = some d) (h2 : dat 8 H y = some d) (q : Q (.bool true) H) : cmpW .eq x y Q H :=
  ⟨d, d, h1, h2, by rw [D.beq_self]; exact q⟩
theorem ne_ints {i j : Id} {l : List Int} (h1 : H i = some (.list (l.map V.int))) (h2 : H j = some (.list (l.map V.int))) (q : Q (.bool false) H) : cmpW .ne (.obj i) (.obj j) Q H :=
  ne_same (dat_ints h1) (dat_ints h2) q
end
end Mine
end
noncomputable section
namespace Mine
open PySem PySem.W PyProof.Rows
section
variable {σ : St} {H : Hp} {k b : Nat} {Q : V → Hp → Prop}
theorem gone_filter (W : Wf σ) : (sortI σ.keys).filter (fun n => !(here σ).contains n) = gone σ := by
  have s1 := (sortI_sorted σ.keys).filter (fun n => !(here σ).contains n)
  refine sorted_eq s1 (sortI_sorted _) (filter_nd (sortI_nd.mpr W.ndk) _) (gone_nd W.ndk) fun x => ?_
  rw [List.mem_filter, sortI_mem, gone_mem]
  simp only [Bool.not_eq_true', List.contains_eq_mem, decide_eq_false_iff_not, here_mem]
  constructor
  · rintro ⟨a, b⟩; exact ⟨a, fun c => b ⟨a, c⟩⟩
  · rintro ⟨a, b⟩; exact ⟨a, fun c => b c.2⟩
theorem sorted_cells (R : Rep σ H) (h60 : σ.keys.length ≤ 60) (q : ∀ N H', Rep σ H' → Lk H H' → H (.loc N) = none → H' (.loc N) = some (.list ((sortI σ.keys).map V.int)) → Q (.obj (.loc N)) H') : bltW .sorted (.obj .cellsD) Q H := by
  have e : (σ.keys.map fun n => (n, V.obj (.cell n))).map (·.1) = σ.keys := by rw [List.map_map]; exact List.map_id _
  exact w_sortedD R.cells (by rw [List.length_map]; exact h60) (by rw [e]; exact new_loc R _ fun N H1 R1 L1 hN e1 => q N H1 R1 L1 hN (by rw [e1, Hp.set_self]))
theorem list_items (R : Rep σ H) (q : ∀ N H', Rep σ H' → Lk H H' → H (.loc N) = none → H' (.loc N) = some (.list (σ.vars.map fun p => V.tup [.int p.1, p.2.toV])) → Q (.obj (.loc N)) H') : bltW .listItems (.obj .varsD) Q H := by
  exact w_items R.vars (by rw [items_eq]; exact new_loc R _ fun N H1 R1 L1 hN e1 => q N H1 R1 L1 hN (by rw [e1, Hp.set_self]))
theorem beq_toV {xs : List Int} (f : Int → LogE) (t : V → V) (ht : ∀ n, t (.int n) = (f n).toV) : ((xs.map V.int).filter (fun _ => true)).map t = (xs.map f).map LogE.toV := by
  rw [List.filter_eq_self.mpr fun _ _ => rfl, List.map_map, List.map_map]
  exact List.map_congr_left fun n _ => ht n
theorem sp_law_collected (R : Rep σ H) (I : Inv σ b)
    (q : ∀ σ' H', Col σ σ' → Inv σ' b → σ'.buffer = [] → Rep σ' H' → Lk H H' → Q (.bool true) H') : callP tab (k + 12) "_law_collected" [.obj .root] Q H := by
  refine c_fn rfl rfl ?_
  have W := I.G.W
  have C := I.G.C
  have h60 := I.k60
  have hlog := I.log
  have gk : ∀ n ∈ gone σ, n ∈ σ.keys := fun n hn => (gone_mem.mp hn).1
  have gnd := gone_nd W.ndk
  have dg' : ∀ n ∈ due σ, n ∈ gone σ := fun n hn => (due_mem.mp hn).1
  have glen : (gone σ).length ≤ σ.keys.length := gnd.length_le_of_subset gk
  have dlen : (due σ).length ≤ σ.keys.length := List.Nodup.length_le_of_subset (filter_nd gnd _) fun n hn => gk n (dg' n hn)
  unfold b_law_collected
  walk_at "mw"
  refine sp_law_reached (k := k + 10) R W C h60 fun HR H1 R1 L1 _ e1 => ?_
  walk_at "mw"
  refine sorted_cells R1 h60 fun K0 H2 R2 L2 _ e2 => ?_
  have e1_2 := L2 HR _ e1
  refine comp_pure (onInt fun n => !(here σ).contains n) id (items := (sortI σ.keys).map V.int) (keep := some (.loc K0)) ?_ ?_ ?_ ?_
  · exact srcL e2
  · intro it hit Q' q'
    obtain ⟨a, ha, rfl⟩ := List.mem_map.mp hit
    simp only [onInt] at q'
    walk_at "mw"
    refine k_ninL e1_2 (intsOf_ints _) rfl ?_
    cases z : (here σ).contains a
    · rw [z] at q'; walk_at "mw"; exact q'
    · rw [z] at q'; walk_at "mw"; exact q'
  · intro it hit h Q' q'
    obtain ⟨a, ha, rfl⟩ := List.mem_map.mp hit
    walk_at "mw"
    exact q'
  rw [filter_ints (sortI σ.keys) (fun n => !(here σ).contains n) _ fun n => rfl, gone_filter W]
  refine new_loc R2 _ fun GO H3 R3 L3 _ e3 => ?_
  have e3' : H3 (.loc GO) = some (.list ((gone σ).map V.int)) := by rw [e3, Hp.set_self]
  clear e3
  walk_at "mw"
  refine comp_pure (onInt fun n => σ.hasD n && !σ.isD n) id (items := (gone σ).map V.int) (keep := some (.loc GO)) ?_ ?_ ?_ ?_
  · exact srcL e3'
  · intro it hit Q' q'
    obtain ⟨a, ha, rfl⟩ := List.mem_map.mp hit
    have hak := gk a ha
    simp only [onInt] at q'
    walk_at "mw"
    cases h1 : σ.hasD a <;> (rw [h1] at q'; walk_at "mw")
    · exact q'
    · cases h2 : σ.isD a <;> (rw [h2] at q'; walk_at "mw"; exact q')
  · intro it hit h Q' q'
    obtain ⟨a, ha, rfl⟩ := List.mem_map.mp hit
    walk_at "mw"
    exact q'
  rw [filter_ints (gone σ) (fun n => σ.hasD n && !σ.isD n) _ fun n => rfl]
  refine new_loc R3 _ fun DU H4 R4 L4 _ e4 => ?_
  have e4' : H4 (.loc DU) = some (.list ((due σ).map V.int)) := by rw [e4, Hp.set_self]; rfl
  clear e4
  have L24 := L3.trans L4
  have hR4 := L24 HR _ e1_2
  have hG4 := L4 GO _ e3'
  walk_at "mw"
  refine s_assignTup ?_
  walk_at "mw"
  refine sp_law_picture (k := k + 10) R4 hR4 (fun n hn => (here_mem.mp hn).1) fun PI H5 R5 L5 pic5 => ?_
  walk_at "mw"
  refine list_items R5 fun VA H6 R6 L6 _ e6 => ?_
  walk_at "mw"
  refine w_len R6.log ?_
  walk_at "mw"
  refine ⟨_, _, rfl, rfl, ?_⟩
  rw [List.length_map]
  have L46 := L5.trans L6
  have hR6 := L46 HR _ hR4
  have hG6 := L46 GO _ hG4
  have hD6 := L46 DU _ e4'
  walk_at "mw"
  refine sp_reachable (k := k + 9) R6 W C fun F H7 seen ep hI R7 L7 _ e7 => ?_
  have hsl : seen.length ≤ σ.keys.length := hI.nd.length_le_of_subset fun x hx => (hI.liv x hx).key C
  have hsk : (dictS seen).map (·.1) = seen := by unfold dictS; rw [List.map_map]; exact List.map_id _
  walk_at "mw"
  refine w_sortedD e7 (by simp only [dictS, List.length_map]; lia) ?_
  rw [hsk, hI.sorted C W]
  refine new_loc R7 _ fun S1 H8 R8 L8 _ e8 => ?_
  have L68 := L7.trans L8
  walk_at "mw"
  refine ne_ints (by rw [e8, Hp.set_self]) (L68 HR _ hR6) ?_
  walk_at "mw"
  refine sp_plain_collect (k := k + 8) R8 W C h60 fun PC H9 R9 L9 _ e9 => ?_
  have L69 := L68.trans L9
  walk_at "mw"
  refine ne_ints e9 (L69 GO _ hG6) ?_
  walk_at "mw"
  refine sp_collect (k := k) R9 I fun σ' Ha col I' hbuf Ra La => ?_
  have L6a := L69.trans La
  have hGa := L6a GO _ hG6
  walk_at "mw"
  refine w_len hGa ?_
  rw [List.length_map]
  refine ne_same (dat_int 8 _ _) (dat_int 8 _ _) ?_
  have W' := I'.G.W
  have C' := I'.G.C
  walk_at "mw"
  refine i_sliceFrom (i := .logL) (m := σ.log.length) (fun P p => by walk_at "mw"; exact p) (fun P p => by walk_at "mw"; exact p) Ra.log (by lia) (by lia) ?_
  have hdrop : (σ'.log.map LogE.toV).drop (σ.log.length : Int).toNat = ((due σ).map LogE.destruct ++ (gone σ).map LogE.free).map LogE.toV := by
    rw [col.log, List.append_assoc, List.map_append, Int.toNat_natCast, ← List.length_map (f := LogE.toV) (as := σ.log), List.drop_left]
  rw [hdrop]
  refine new_loc Ra _ fun LO Hb Rb Lb _ eb => ?_
  have eb' : Hb (.loc LO) = some (.list (((due σ).map LogE.destruct ++ (gone σ).map LogE.free).map LogE.toV)) := by rw [eb, Hp.set_self]
  clear eb
  have L6b := L6a.trans Lb
  have hDb := L6b DU _ hD6
  walk_at "mw"
  refine comp_pure (fun _ => true) (fun v => .tup [.str "destruct", v]) (items := (due σ).map V.int) (keep := some (.loc DU)) ?_ ?_ ?_ ?_
  · exact srcL hDb
  · intro it hit Q' q'; walk_at "mw"; exact q'
  · intro it hit h Q' q'; walk_at "mw"; exact q'
  rw [beq_toV .destruct _ fun n => rfl]
  refine new_loc Rb _ fun A1 Hc Rc Lc _ ec => ?_
  have ec' : Hc (.loc A1) = some (.list (((due σ).map LogE.destruct).map LogE.toV)) := by rw [ec, Hp.set_self]
  clear ec
  have L6c := L6b.trans Lc
  have hGc := L6c GO _ hG6
  walk_at "mw"
  refine comp_pure (fun _ => true) (fun v => .tup [.str "free", v]) (items := (gone σ).map V.int) (keep := some (.loc GO)) ?_ ?_ ?_ ?_
  · exact srcL hGc
  · intro it hit Q' q'; walk_at "mw"; exact q'
  · intro it hit h Q' q'; walk_at "mw"; exact q'
  rw [beq_toV .free _ fun n => rfl]
  refine new_loc Rc _ fun A2 Hd Rd Ld _ ed => ?_
  have ed' : Hd (.loc A2) = some (.list (((gone σ).map LogE.free).map LogE.toV)) := by rw [ed, Hp.set_self]
  clear ed
  have hA1d := Ld A1 _ ec'
  refine b_addl hA1d ed' (by simp only [List.length_map]; unfold LIM; lia) ?_
  rw [← List.map_append]
  refine new_loc Rd _ fun A3 He Re Le _ ee => ?_
  have ee' : He (.loc A3) = some (.list (((due σ).map LogE.destruct ++ (gone σ).map LogE.free).map LogE.toV)) := by rw [ee, Hp.set_self]
  clear ee
  have hLOe := (Lc.trans (Ld.trans Le)) LO _ eb'
  obtain ⟨dl, hdl⟩ := dat_log hLOe
  refine ne_same hdl (by rw [← hdl]; exact dat_same ee' hLOe 7) ?_
  have L6e := L6c.trans (Ld.trans Le)
  walk_at "mw"
  refine sorted_cells Re I'.k60 fun S2 Hf Rf Lf _ ef => ?_
  have hh : sortI σ'.keys = here σ := by rw [col.keys]; rfl
  rw [hh] at ef
  have L6f := L6e.trans Lf
  have hRf := L6f HR _ hR6
  walk_at "mw"
  refine ne_ints ef hRf ?_
  have hhk : ∀ n ∈ here σ, n ∈ σ'.keys := fun n hn => by rw [← hh, sortI_mem] at hn; exact hn
  walk_at "mw"
  refine sp_law_picture (k := k + 10) Rf hRf hhk fun P2 Hg Rg Lg picg => ?_
  have hpd : picD σ' (here σ) = picD σ (here σ) := by
    unfold picD
    congr 1
    exact List.map_congr_left fun n _ => by unfold elD; rw [col.sort, col.slots]
  have L6g := L6f.trans Lg
  walk_at "mw"
  refine ne_same (picg Hg (Lk.refl _)) (by rw [hpd]; exact pic5 Hg (L6.trans L6g)) ?_
  walk_at "mw"
  refine list_items Rg fun V2 Hh Rh Lh _ eh => ?_
  rw [col.vars] at eh
  have L6h := L6g.trans Lh
  walk_at "mw"
  refine ne_same (dat_items (m := 4) eh) (dat_items (m := 4) (L6h VA _ e6)) ?_
  walk_at "mw"
  refine sp_counts_right (k := k + 9) Rh W' C' I'.J.bal fun Hi Ri Li => ?_
  walk_at "mw"
  refine new_loc Ri [] fun B1 Hj Rj Lj _ ej => ?_
  have hbj : Hj (.buf σ'.bid) = some (.list (([] : List Int).map V.int)) := by rw [Rj.buf, hbuf]
  refine ne_ints hbj (by rw [ej, Hp.set_self]; rfl) ?_
  walk_at "mw"
  refine comp_pure (fun _ => false) id (items := σ'.keys.map fun n => V.obj (.cell n)) (keep := some .cellsD) ?_ ?_ ?_ ?_
  · exact (srcV Rj.cells).trans (by rw [List.map_map]; rfl)
  · intro it hit Q' q'
    obtain ⟨a, ha, rfl⟩ := List.mem_map.mp hit
    have c1 : σ'.colour a = "black" := by rw [I'.J.buf.col a ha, hbuf]; simp
    have c2 : σ'.buffered a = false := by rw [I'.J.buf.mem a ha, hbuf]; simp
    walk_at "mw"
    rw [c1]
    refine k_nes (t := false) (by simp) ?_
    walk_at "mw"
    rw [c2]
    walk_at "mw"
    exact q'
  · intro it hit h; cases h
  have hnil : ((σ'.keys.map fun n => V.obj (.cell n)).filter (fun _ => false)).map id = [] := by simp
  rw [hnil]
  refine new_loc Rj [] fun B2 Hk Rk Lk' _ ek => ?_
  walk_at "mw"
  refine new_loc Rk [] fun B3 Hl Rl Ll _ el => ?_
  refine ne_ints (l := []) (Ll B2 _ (by rw [ek, Hp.set_self]; rfl)) (by rw [el, Hp.set_self]; rfl) ?_
  have L6l := L6h.trans (Li.trans (Lj.trans (Lk'.trans Ll)))
  walk_at "mw"
  refine sp_collect (k := k) Rl I' fun σ'' Hm col2 I'' hbuf2 Rm Lm => ?_
  have g0 : gone σ' = [] := col.gone0 C
  rw [g0]
  walk_at "mw"
  refine eq_same (dat_int 8 _ 0) (dat_int 8 _ _) ?_
  have L6m := L6l.trans Lm
  walk_at "mw"
  refine w_len Rm.log ?_
  walk_at "mw"
  refine w_len (L6m DU _ hD6) ?_
  walk_at "mw"
  refine w_len (L6m GO _ hG6) ?_
  walk_at "mw"
  simp only [List.length_map]
  have hlen : (σ''.log.length : Int) = (σ.log.length : Int) + ((due σ).length : Int) + ((gone σ).length : Int) := by
    rw [(col.then col2 g0).log]; simp only [List.length_append, List.length_map]; lia
  rw [hlen]
  refine eq_same (dat_int 8 _ _) (dat_int 8 _ _) ?_
  walk_at "mw"
  exact q σ'' Hm (col.then col2 g0) I'' hbuf2 Rm ((L1.trans (L2.trans (L24.trans L46))).trans L6m)
end
end Mine
end
noncomputable section
namespace Mine
noncomputable def vals (es : List (Int × Val)) : List Val := es.map (·.2)
theorem old_nil {es : List (Int × Val)} {j : Int} (h : es.lookup j = none) : old es j = [] := by unfold old; rw [h]; rfl
theorem old_some {es : List (Int × Val)} {j : Int} {u : Val} (h : es.lookup j = some u) : old es j = [u] := by unfold old; rw [h]; rfl
theorem old_mem {es : List (Int × Val)} {j : Int} {u : Val} (h : u ∈ old es j) : (j, u) ∈ es := by
  unfold old at h
  cases e : es.lookup j with
  | none => rw [e] at h; cases h
  | some w => rw [e] at h; cases List.mem_singleton.mp h; exact mem_of_lk e
theorem pc_map_same {es : List (Int × Val)} {j : Int} {v : Val} (h : ∀ p ∈ es, p.1 ≠ j) : (es.map fun p => if p.1 = j then (p.1, v) else p) = es := by
  refine (List.map_congr_left fun p hp => ?_).trans (List.map_id _)
  rw [if_neg (h p hp)]; rfl
theorem pc_putA (es : List (Int × Val)) (hn : (es.map (·.1)).Nodup) (j : Int) (v : Val) (x : Int) : pc (vals (putA es j v)) x + pc (old es j) x = pc (vals es) x + pc [v] x := by
  cases hl : es.lookup j with
  | none =>
    rw [old_nil hl]
    unfold putA vals
    rw [hl]
    simp only [Option.isSome_none, Bool.false_eq_true, if_false, List.map_append, List.map_cons, List.map_nil]
    rw [pc_app, pc_nil]; lia
  | some u =>
    rw [old_some hl]
    unfold putA
    rw [hl]
    simp only [Option.isSome_some, if_true]
    induction es with
    | nil => cases hl
    | cons p r ih =>
      obtain ⟨a, c⟩ := p
      rw [List.map_cons, List.nodup_cons] at hn
      rw [List.lookup_cons] at hl
      by_cases e : a = j
      · subst e
        have hb : (a == a) = true := by simp
        have hcu : c = u := by simpa only [hb, Option.some.injEq] using hl
        subst hcu
        have := pc_map_same (es := r) (j := a) (v := v) fun q hq e => hn.1 (List.mem_map.mpr ⟨q, hq, e⟩)
        rw [List.map_cons, this]
        simp only [if_true]
        have p1 := pc_cons v (r.map (·.2)) x
        have p2 := pc_cons c (r.map (·.2)) x
        unfold vals
        rw [List.map_cons, List.map_cons]; dsimp only; lia
      · have hb : (j == a) = false := by simpa using Ne.symm e
        simp only [hb] at hl
        have := ih hn.2 hl
        rw [List.map_cons]
        simp only [e, if_false]
        have p1 := pc_cons c ((r.map fun p => if p.1 = j then (p.1, v) else p).map (·.2)) x
        have p2 := pc_cons c (r.map (·.2)) x
        unfold vals at this ⊢
        rw [List.map_cons, List.map_cons]; dsimp only; lia
theorem pc_delA (es : List (Int × Val)) (hn : (es.map (·.1)).Nodup) (j : Int) (x : Int) : pc (vals (delA es j)) x + pc (old es j) x = pc (vals es) x := by
  unfold delA
  induction es with
  | nil => rfl
  | cons p r ih =>
    obtain ⟨a, c⟩ := p
    rw [List.map_cons, List.nodup_cons] at hn
    rw [List.filter_cons]
    by_cases e : a = j
    · subst e
      have h1 : r.filter (fun p => decide (p.1 ≠ a)) = r := List.filter_eq_self.mpr fun q hq => by
        simp only [decide_eq_true_eq]; exact fun e => hn.1 (List.mem_map.mpr ⟨q, hq, e⟩)
      have h2 : old ((a, c) :: r) a = [c] := old_some (by simp)
      rw [h1, h2]
      simp only [ne_eq, not_true_eq_false, decide_false, Bool.false_eq_true, if_false]
      have p1 := pc_cons c (r.map (·.2)) x
      unfold vals
      rw [List.map_cons]; dsimp only; lia
    · have hb : (j == a) = false := by simpa using Ne.symm e
      have h2 : old ((a, c) :: r) j = old r j := by unfold old; rw [List.lookup_cons, hb]
      have := ih hn.2
      rw [h2]
      simp only [ne_eq, e, not_false_eq_true, decide_true, if_true]
      have p1 := pc_cons c ((r.filter fun p => decide (p.1 ≠ j)).map (·.2)) x
      have p2 := pc_cons c (r.map (·.2)) x
      unfold vals at this ⊢
      rw [List.map_cons, List.map_cons]
      simp only [ne_eq] at this p1 ⊢
      lia
theorem putA_mem_self (es : List (Int × Val)) (j : Int) (v : Val) : (j, v) ∈ putA es j v := by
  unfold putA
  split
  · rename_i h
    obtain ⟨p, hp, e⟩ := List.mem_map.mp (lk_some.mp h)
    exact List.mem_map.mpr ⟨p, hp, by rw [if_pos e, e]⟩
  · simp
theorem putA_keep {es : List (Int × Val)} {j : Int} {v : Val} (hn : (es.map (·.1)).Nodup) {p : Int × Val} (hp : p ∈ es) : p ∈ putA es j v ∨ p.2 ∈ old es j := by
  by_cases e : p.1 = j
  · right
    have := lookup_nd hn (a := p.1) (b := p.2) hp
    rw [e] at this
    rw [old_some this]; simp
  · left
    unfold putA
    split
    · exact List.mem_map.mpr ⟨p, hp, if_neg e⟩
    · exact List.mem_append_left _ hp
theorem delA_keep {es : List (Int × Val)} {j : Int} (hn : (es.map (·.1)).Nodup) {p : Int × Val} (hp : p ∈ es) : p ∈ delA es j ∨ p.2 ∈ old es j := by
  by_cases e : p.1 = j
  · right
    have := lookup_nd hn (a := p.1) (b := p.2) hp
    rw [e] at this
    rw [old_some this]; simp
  · left
    exact List.mem_filter.mpr ⟨hp, by simpa using e⟩
section
variable {σ : St} {b i : Nat} {P : List Val} {X : List Int}
theorem vcells_eq (x : Int) : ((vcells σ).count x : Int) = pc (vals σ.vars) x := rfl
theorem kc_eq (m x : Int) : kc σ m x = pc (vals (σ.slots m)) x := rfl
theorem refs_to {p : Pl} (hp : σ.ok p) (hnd : σ.keys.Nodup) (es : List (Int × Val)) (e : Nat) (x : Int) : refs (σ.to p es e) x + pc (vals (σ.at p)) x = refs σ x + pc (vals es) x := by
  cases p with
  | vars =>
    have h1 : sumL (σ.to .vars es e).keys (fun m => kc (σ.to .vars es e) m x) = sumL σ.keys (fun m => kc σ m x) := rfl
    unfold refs
    rw [h1, vcells_eq, vcells_eq]
    show pc (vals es) x + _ + pc (vals σ.vars) x = _
    lia
  | cell n =>
    have hn : n ∈ σ.keys := hp
    have h1 := sumL_one (l := σ.keys) (f := fun m => kc (σ.to (.cell n) es e) m x) (g := fun m => kc σ m x) hnd hn fun m _ hm => by
      rw [kc_eq, kc_eq]; show pc (vals (upd σ.slots n es m)) x = _; rw [upd_ne _ _ hm]
    have h2 : kc (σ.to (.cell n) es e) n x = pc (vals es) x := by rw [kc_eq]; show pc (vals (upd σ.slots n es n)) x = _; rw [upd_self]
    have h3 : kc σ n x = pc (vals (σ.at (.cell n))) x := rfl
    have h4 : ((vcells (σ.to (.cell n) es e)).count x : Int) = ((vcells σ).count x : Int) := rfl
    have h5 : (σ.to (.cell n) es e).keys = σ.keys := rfl
    unfold refs
    rw [h4, h5]
    lia
theorem refs_put {p : Pl} (hp : σ.ok p) (hnd : σ.keys.Nodup) (hn : ((σ.at p).map (·.1)).Nodup) (j : Int) (v : Val) (x : Int) : refs (σ.put p j v) x + pc (old (σ.at p) j) x = refs σ x + pc [v] x := by
  have h1 := refs_to hp hnd (putA (σ.at p) j v) (if ((σ.at p).lookup j).isSome then σ.ep p else σ.ep p + 1) x
  have h2 := pc_putA (σ.at p) hn j v x
  unfold St.put; lia
theorem refs_del {p : Pl} (hp : σ.ok p) (hnd : σ.keys.Nodup) (hn : ((σ.at p).map (·.1)).Nodup) (j : Int) (x : Int) : refs (σ.del p j) x + pc (old (σ.at p) j) x = refs σ x := by
  have h1 := refs_to hp hnd (delA (σ.at p) j) (σ.ep p + 1) x
  have h2 := pc_delA (σ.at p) hn j x
  unfold St.del; lia
theorem vr_iff {x : Int} : vr σ x ↔ ∃ p ∈ σ.vars, p.2 = .cell x := by
  unfold vr vcells
  rw [cellsOf_mem, List.mem_map]
theorem kid_iff {m x : Int} : x ∈ kids σ m ↔ ∃ p ∈ σ.slots m, p.2 = .cell x := by
  unfold kids hvals
  rw [cellsOf_mem, List.mem_map]
theorem rch_to {p : Pl} (hp : σ.ok p) {es : List (Int × Val)} {e : Nat} {R R' : Int → Prop} (hr : ∀ x, R x → vr σ x ∨ Rch (σ.to p es e) R' x) (hvr : ∀ x, vr (σ.to p es e) x → R' x)
    (hk : ∀ q ∈ σ.at p, q ∈ es ∨ ∃ x, q.2 = .cell x ∧ R' x ∨ (∀ x, q.2 ≠ .cell x)) {n : Int} (h : Rch σ R n) : Rch (σ.to p es e) R' n := by
  have hv : ∀ x, vr σ x → R' x := fun x hx => by
    obtain ⟨q, hq, e1⟩ := vr_iff.mp hx
    cases p with
    | vars =>
      rcases hk q hq with z | ⟨y, ⟨z1, z2⟩ | z⟩
      · exact hvr x (vr_iff.mpr ⟨q, z, e1⟩)
      · rw [e1] at z1; cases z1; exact z2
      · exact absurd e1 (z x)
    | cell m => exact hvr x (vr_iff.mpr ⟨q, hq, e1⟩)
  refine h.mono (fun x hx => ?_) fun m x hm hx h' => ?_
  · rcases hr x hx with z | z
    · exact .root (hv x z)
    · exact z
  · have hm' : m ∈ (σ.to p es e).keys := by rw [to_keys]; exact hm
    obtain ⟨q, hq, e1⟩ := kid_iff.mp hx
    by_cases z : p = .cell m
    · subst z
      rcases hk q hq with y | ⟨w, ⟨y1, y2⟩ | y⟩
      · refine .step h' hm' (kid_iff.mpr ⟨q, ?_, e1⟩)
        show q ∈ upd σ.slots m es m; rw [upd_self]; exact y
      · rw [e1] at y1; cases y1; exact .root y2
      · exact absurd e1 (y x)
    · refine .step h' hm' (kid_iff.mpr ⟨q, ?_, e1⟩)
      have : (σ.to p es e).at (.cell m) = σ.at (.cell m) := to_at_ne (Ne.symm z) _ _
      show q ∈ (σ.to p es e).at (.cell m)
      rw [this]; exact hq
structure K (σ : St) (b i : Nat) (P : List Val) (X : List Int) : Prop where
  J : J σ P X
  G : Good σ b
  vk : ∀ p ∈ σ.vars, 0 ≤ p.1 ∧ p.1 < 5
  last : σ.last ≤ i
  len : σ.keys.length ≤ i
theorem K.mono (h : K σ b i P X) {c j : Nat} (hb : b ≤ c) (hi : i ≤ j) : K σ c j P X := ⟨h.J, h.G.mono hb, h.vk, by have := h.last; lia, Nat.le_trans h.len hi⟩
theorem K.perm (h : K σ b i P X) {P' : List Val} (hp : P.Perm P') : K σ b i P' X := by
  have hm : ∀ v, v ∈ P' ↔ v ∈ P := fun v => hp.symm.mem_iff
  refine ⟨⟨fun n hn => ?_, fun n hn => ?_, fun v hv => h.J.pok v ((hm v).mp hv), h.J.buf, h.J.pos, h.J.lg, h.J.obj⟩, h.G, h.vk, h.last, h.len⟩
  · rw [h.J.bal n hn]
    have : pc P' n = pc P n := by
      unfold pc cellsOf
      rw [((hp.filterMap _).count_eq n)]
    lia
  · exact (h.J.full n hn).mono (fun x hx => .root (by
      rcases hx with q | q | q | q
      · exact .inl q
      · exact .inr (.inl ((hm _).mpr q))
      · exact .inr (.inr (.inl q))
      · exact .inr (.inr (.inr q)))) fun m n hm hk h => .step h hm hk
theorem K.int (h : K σ b i P X) (a : Int) : K σ b i (.int a :: P) X := by
  refine ⟨⟨fun n hn => ?_, fun n hn => ?_, fun v hv => ?_, h.J.buf, h.J.pos, h.J.lg, h.J.obj⟩, h.G, h.vk, h.last, h.len⟩
  · have p1 := pc_cons (.int a) P n
    rw [pc_int] at p1
    rw [h.J.bal n hn]; lia
  · exact (h.J.full n hn).mono (fun x hx => .root (by
      rcases hx with q | q | q | q
      · exact .inl q
      · exact .inr (.inl (List.mem_cons_of_mem _ q))
      · exact .inr (.inr (.inl q))
      · exact .inr (.inr (.inr q)))) fun m n hm hk h => .step h hm hk
  · rcases List.mem_cons.mp hv with q | q
    · subst q; trivial
    · exact h.J.pok v q
theorem J.unX {m : Int} (h : J σ P (m :: X)) (hm : Val.cell m ∈ P) : J σ P X := by
  refine ⟨h.bal, fun n hn => ?_, h.pok, h.buf, h.pos, h.lg, h.obj⟩
  exact (h.full n hn).mono (fun x hx => .root (by
      rcases hx with q | q | q | q
      · exact .inl q
      · exact .inr (.inl q)
      · exact .inr (.inr (.inl q))
      · rcases List.mem_cons.mp q with z | z
        · subst z; exact .inr (.inl hm)
        · exact .inr (.inr (.inr z)))) fun m n hm hk h => .step h hm hk
theorem K.unX {m : Int} (h : K σ b i P (m :: X)) (hm : Val.cell m ∈ P) : K σ b i P X := ⟨h.J.unX hm, h.G, h.vk, h.last, h.len⟩
theorem gain_count {v : Val} (x : Int) : (σ.gain v).count x = σ.count x + pc [v] x := by
  cases v with
  | int a => rw [pc_int]; show σ.count x = _; lia
  | cell n =>
    rw [pc_cell]
    show upd σ.count n (σ.count n + 1) x = _
    by_cases e : x = n
    · subst e; rw [upd_self, if_pos rfl]
    · rw [upd_ne _ _ e, if_neg e]; lia
theorem gain_mild (v : Val) : Mild σ (σ.gain v) ∧ (σ.gain v).buffer = σ.buffer ∧ (σ.gain v).buffered = σ.buffered ∧ (σ.gain v).colour = σ.colour := by
  cases v <;> exact ⟨⟨rfl, rfl, rfl, rfl, rfl, rfl, rfl, rfl, rfl⟩, rfl, rfl, rfl⟩
theorem LogOk.mild {σ' : St} (l : LogOk σ) (m : Mild σ σ') : LogOk σ' := by
  refine ⟨by rw [m.log]; exact l.nd, fun n hn => ?_, by rw [m.freed, m.log]; exact l.freed, ?_⟩
  · rw [m.log] at hn; rw [m.keys, m.last]; exact l.old n hn
  · rw [m.log, m.keys, m.isD, m.last]; exact l.len
theorem J.gain (h : J σ P X) {v : Val} (hv : okV σ v) : J (σ.gain v) (v :: P) X := by
  obtain ⟨m, e1, e2, e3⟩ := gain_mild (σ := σ) v
  refine ⟨fun n hn => ?_, fun n hn => ?_, fun u hu => (grow_gain v).okV ?_, ⟨fun n hn => ?_, by rw [e1]; exact h.buf.nd, fun n hn => ?_, fun n hn => ?_⟩, by rw [m.keys, m.last]; exact h.pos, h.lg.mild m, by rw [m.keys, m.hasD, m.sort]; exact h.obj⟩
  · have p1 := pc_cons v P n
    rw [gain_count, m.shape.refs, h.bal n (m.keys ▸ hn)]; lia
  · refine (m.shape.rch (h.full n (m.keys ▸ hn))).mono (fun x hx => .root ?_) fun m n hm hk h => .step h hm hk
    unfold RootF; rw [m.shape.vr, e1]
    rcases hx with q | q | q | q
    · exact .inl q
    · exact .inr (.inl (List.mem_cons_of_mem _ q))
    · exact .inr (.inr (.inl q))
    · exact .inr (.inr (.inr q))
  · rcases List.mem_cons.mp hu with q | q
    · subst q; exact hv
    · exact h.pok u q
  · rw [e2, e1]; exact h.buf.mem n (m.keys ▸ hn)
  · rw [e1] at hn; rw [m.keys]; exact h.buf.sub n hn
  · rw [e3, e1]; exact h.buf.col n (m.keys ▸ hn)
theorem K.gain (h : K σ b i P X) {v : Val} (hv : okV σ v) : K (σ.gain v) b i (v :: P) X := by
  obtain ⟨m, e1, e2, e3⟩ := gain_mild (σ := σ) v
  exact ⟨h.J.gain hv, h.G.gain v, by rw [m.vars]; exact h.vk, by rw [m.last]; exact h.last, by rw [m.keys]; exact h.len⟩
end
end Mine
end
noncomputable section
namespace Mine
section
variable {σ : St} {b i : Nat} {P : List Val} {X : List Int}
theorem J.to {p : Pl} {es : List (Int × Val)} {e : Nat} {P' : List Val} (h : J σ P X) (hbal : ∀ n ∈ σ.keys, σ.count n = refs (σ.to p es e) n + pc P' n) (hfull : ∀ n ∈ σ.keys, Rch (σ.to p es e) (RootF (σ.to p es e) P' X) n) (hpok : ∀ v ∈ P', okV σ v) : J (σ.to p es e) P' X := by
  refine ⟨fun n hn => ?_, fun n hn => ?_, fun v hv => okV_to (hpok v hv), ?_, ?_, ?_, ?_⟩
  · rw [to_keys] at hn; rw [to_count]; exact hbal n hn
  · rw [to_keys] at hn; exact hfull n hn
  · cases p <;> exact ⟨h.buf.mem, h.buf.nd, h.buf.sub, h.buf.col⟩
  · cases p <;> exact h.pos
  · cases p <;> exact ⟨h.lg.nd, h.lg.old, h.lg.freed, h.lg.len⟩
  · cases p <;> exact h.obj
theorem old_ok (C : Cl σ) {p : Pl} (hp : σ.ok p) {j : Int} {v : Val} (h : v ∈ old (σ.at p) j) : okV σ v := at_mem C hp (old_mem h)
theorem J.put (h : J σ (v :: P) X) (W : Wf σ) (C : Cl σ) {p : Pl} (hp : σ.ok p) {j : Int} (hq : ∀ n, p = .cell n → Rch σ (RootF σ P X) n) : J (σ.put p j v) (old (σ.at p) j ++ P) X := by
  have hnd := W.ndat hp
  refine h.to (fun n hn => ?_) (fun n hn => ?_) fun u hu => ?_
  · have h1 := refs_put hp W.ndk hnd j v n
    have h2 := pc_cons v P n
    have h3 := pc_app (old (σ.at p) j) P n
    have h4 := h.bal n hn
    unfold St.put at h1
    lia
  · -- the reach
    have hk : ∀ q ∈ σ.at p, q ∈ putA (σ.at p) j v ∨ ∃ x, q.2 = .cell x ∧ RootF (σ.put p j v) (old (σ.at p) j ++ P) X x ∨ (∀ x, q.2 ≠ .cell x) := fun q hq => by
      rcases putA_keep (j := j) (v := v) hnd hq with z | z
      · exact .inl z
      · right
        cases hq2 : q.2 with
        | int a => exact ⟨0, .inr fun x e => by cases e⟩
        | cell x => exact ⟨x, .inl ⟨rfl, .inr (.inl (List.mem_append_left _ (hq2 ▸ z)))⟩⟩
    have up : ∀ x, RootF σ P X x → vr σ x ∨ RootF (σ.put p j v) (old (σ.at p) j ++ P) X x := fun x hx => by
      rcases hx with z | z | z | z
      · exact .inl z
      · exact .inr (.inr (.inl (List.mem_append_right _ z)))
      · refine .inr (.inr (.inr (.inl ?_)))
        show x ∈ (σ.to _ _ _).buffer
        rw [to_buf]; exact z
      · exact .inr (.inr (.inr (.inr z)))
    have lift : ∀ y, Rch σ (RootF σ P X) y → Rch (σ.put p j v) (RootF (σ.put p j v) (old (σ.at p) j ++ P) X) y := fun y hy =>
      rch_to hp (fun x hx => (up x hx).imp id .root) (fun x hx => .inl hx) hk hy
    refine rch_to hp (R := RootF σ (v :: P) X) (fun x hx => ?_) (fun x hx => .inl hx) hk (h.full n hn)
    have key : Val.cell x = v → Rch (σ.put p j v) (RootF (σ.put p j v) (old (σ.at p) j ++ P) X) x := fun e => by
      cases p with
      | vars => exact .root (.inl (vr_iff.mpr ⟨(j, v), putA_mem_self _ _ _, e.symm⟩))
      | cell m =>
        refine .step (lift m (hq m rfl)) hp (kid_iff.mpr ⟨(j, v), ?_, e.symm⟩)
        show (j, v) ∈ upd σ.slots m (putA (σ.slots m) j v) m
        rw [upd_self]; exact putA_mem_self _ _ _
    rcases hx with z | z | z | z
    · exact .inl z
    · rcases List.mem_cons.mp z with y | y
      · exact .inr (key y)
      · exact (up x (.inr (.inl y))).imp id .root
    · exact (up x (.inr (.inr (.inl z)))).imp id .root
    · exact (up x (.inr (.inr (.inr z)))).imp id .root
  · rcases List.mem_append.mp hu with z | z
    · exact old_ok C hp z
    · exact h.pok u (List.mem_cons_of_mem _ z)
theorem J.del (h : J σ P X) (W : Wf σ) (C : Cl σ) {p : Pl} (hp : σ.ok p) {j : Int} : J (σ.del p j) (old (σ.at p) j ++ P) X := by
  have hnd := W.ndat hp
  refine h.to (fun n hn => ?_) (fun n hn => ?_) fun u hu => ?_
  · have h1 := refs_del hp W.ndk hnd j n
    have h3 := pc_app (old (σ.at p) j) P n
    have h4 := h.bal n hn
    unfold St.del at h1
    lia
  · refine rch_to hp (R := RootF σ P X) (fun x hx => ?_) (fun x hx => .inl hx) (fun q hq => ?_) (h.full n hn)
    · rcases hx with z | z | z | z
      · exact .inl z
      · exact .inr (.root (.inr (.inl (List.mem_append_right _ z))))
      · refine .inr (.root (.inr (.inr (.inl ?_))))
        rw [to_buf]; exact z
      · exact .inr (.root (.inr (.inr (.inr z))))
    · rcases delA_keep (j := j) hnd hq with z | z
      · exact .inl z
      · right
        cases hq2 : q.2 with
        | int a => exact ⟨0, .inr fun x e => by cases e⟩
        | cell x => exact ⟨x, .inl ⟨rfl, .inr (.inl (List.mem_append_left _ (hq2 ▸ z)))⟩⟩
  · rcases List.mem_append.mp hu with z | z
    · exact old_ok C hp z
    · exact h.pok u z
theorem new_ne (W : Wf σ) {n : Int} (hn : n ∈ σ.keys) : n ≠ σ.last + 1 := fun e => by have := W.last n hn; lia
theorem new_kids (W : Wf σ) {s : String} {n : Int} (hn : n ∈ σ.keys) : kids (σ.newCell s) n = kids σ n := by
  unfold kids hvals; simp [St.newCell, upd, new_ne W hn]
theorem new_kids0 {s : String} : kids (σ.newCell s) (σ.last + 1) = [] := by
  unfold kids hvals; simp [St.newCell, upd]; rfl
theorem new_vr {s : String} : vr (σ.newCell s) = vr σ := rfl
theorem new_refs (W : Wf σ) {s : String} (x : Int) : refs (σ.newCell s) x = refs σ x := by
  unfold refs
  have h1 : ((vcells (σ.newCell s)).count x : Int) = ((vcells σ).count x : Int) := rfl
  have h2 : (σ.newCell s).keys = σ.keys ++ [σ.last + 1] := rfl
  have h3 : sumL σ.keys (fun m => kc (σ.newCell s) m x) = sumL σ.keys (fun m => kc σ m x) := sumL_congr fun m hm => by unfold kc; rw [new_kids W hm]
  have h4 : sumL [σ.last + 1] (fun m => kc (σ.newCell s) m x) = 0 := by rw [sumL_cons, sumL_nil, kc, new_kids0]; rfl
  rw [h1, h2, sumL_app, h3, h4]; lia
theorem new_refs0 (W : Wf σ) (C : Cl σ) : refs σ (σ.last + 1) = 0 := by
  have h1 : (vcells σ).count (σ.last + 1) = 0 := List.count_eq_zero.mpr fun q => new_ne W (vr_ok C q) rfl
  have h2 : sumL σ.keys (fun m => kc σ m (σ.last + 1)) = sumL σ.keys (fun _ => 0) := sumL_congr fun m hm => kc_zero fun q => new_ne W (kids_mem C hm q) rfl
  unfold refs
  rw [h1, h2, sumL_zero]; rfl
theorem new_logOk (l : LogOk σ) (W : Wf σ) {s : String} (hk : ∀ n ∈ frees σ.log, n ≤ σ.last) : ((σ.newCell s).log.length : Int) + sumL (σ.newCell s).keys (fun n => if (σ.newCell s).isD n then 1 else 2) + 1 ≤ 3 * (σ.newCell s).last := by
  have h2 : (σ.newCell s).keys = σ.keys ++ [σ.last + 1] := rfl
  have h3 : sumL σ.keys (fun n => if (σ.newCell s).isD n then (1 : Int) else 2) = sumL σ.keys (fun n => if σ.isD n then 1 else 2) := sumL_congr fun m hm => by
    have : (σ.newCell s).isD m = σ.isD m := by simp [St.newCell, upd, new_ne W hm]
    rw [this]
  have h4 : sumL [σ.last + 1] (fun n => if (σ.newCell s).isD n then (1 : Int) else 2) = 2 := by
    have : (σ.newCell s).isD (σ.last + 1) = false := by simp [St.newCell, upd]
    rw [sumL_cons, sumL_nil, this]; rfl
  have h5 := l.len
  have h6 : (σ.newCell s).log = σ.log := rfl
  have h7 : (σ.newCell s).last = σ.last + 1 := rfl
  rw [h2, sumL_app, h3, h4, h6, h7]; lia
theorem J.new (h : J σ P X) (W : Wf σ) (C : Cl σ) (s : String) : J (σ.newCell s) P ((σ.last + 1) :: X) := by
  have hk : (σ.newCell s).keys = σ.keys ++ [σ.last + 1] := rfl
  have np : Val.cell (σ.last + 1) ∉ P := fun q => new_ne W (h.pok _ q) rfl
  have nb : σ.last + 1 ∉ σ.buffer := fun q => new_ne W (h.buf.sub _ q) rfl
  have cnt : ∀ n ∈ σ.keys, (σ.newCell s).count n = σ.count n := fun n hn => by simp [St.newCell, upd, new_ne W hn]
  refine ⟨fun n hn => ?_, fun n hn => ?_, fun v hv => okV_new (h.pok v hv), ⟨fun n hn => ?_, h.buf.nd, fun n hn => List.mem_append_left _ (h.buf.sub n hn), fun n hn => ?_⟩, ⟨fun n hn => ?_, ?_⟩, ⟨h.lg.nd, fun n hn => ?_, h.lg.freed, ?_⟩, fun n hn e => ?_⟩
  · rw [new_refs W]
    rw [hk] at hn
    rcases List.mem_append.mp hn with z | z
    · rw [cnt n z]; exact h.bal n z
    · rw [List.mem_singleton.mp z, new_refs0 W C, pc_zero np]; simp [St.newCell, upd]
  · rw [hk] at hn
    rcases List.mem_append.mp hn with z | z
    · refine (h.full n z).mono (fun x hx => .root ?_) fun m x hm hx' h' => .step h' (List.mem_append_left _ hm) (by rw [new_kids W hm]; exact hx')
      rcases hx with q | q | q | q
      · exact .inl q
      · exact .inr (.inl q)
      · exact .inr (.inr (.inl q))
      · exact .inr (.inr (.inr (List.mem_cons_of_mem _ q)))
    · rw [List.mem_singleton.mp z]; exact .root (.inr (.inr (.inr (List.mem_cons_self ..))))
  · rcases List.mem_append.mp hn with z | z
    · have : (σ.newCell s).buffered n = σ.buffered n := by simp [St.newCell, upd, new_ne W z]
      rw [this]; exact h.buf.mem n z
    · rw [List.mem_singleton.mp z]
      show upd σ.buffered (σ.last + 1) false (σ.last + 1) = decide (_ ∈ σ.buffer)
      rw [upd_self]; simp [nb]
  · rcases List.mem_append.mp hn with z | z
    · have : (σ.newCell s).colour n = σ.colour n := by simp [St.newCell, upd, new_ne W z]
      rw [this]; exact h.buf.col n z
    · rw [List.mem_singleton.mp z]
      show upd σ.colour (σ.last + 1) "black" (σ.last + 1) = if _ ∈ σ.buffer then _ else _
      rw [upd_self, if_neg nb]
  · have := h.pos.2
    rcases List.mem_append.mp hn with z | z
    · exact h.pos.1 n z
    · rw [List.mem_singleton.mp z]; lia
  · have := h.pos.2
    show 0 ≤ σ.last + 1; lia
  · have hh := h.lg.old n hn
    refine ⟨fun q => ?_, ?_⟩
    · rcases List.mem_append.mp q with z | z
      · exact hh.1 z
      · have := List.mem_singleton.mp z; lia
    · show n ≤ σ.last + 1; lia
  · have := new_logOk h.lg W (s := s) fun n hn => (h.lg.old n hn).2
    lia
  · rcases List.mem_append.mp hn with z | z
    · have e1 : (σ.newCell s).hasD n = σ.hasD n := by simp [St.newCell, upd, new_ne W z]
      have e2 : (σ.newCell s).sort n = σ.sort n := by simp [St.newCell, upd, new_ne W z]
      rw [e2]; rw [e1] at e; exact h.obj n z e
    · rw [List.mem_singleton.mp z] at e; simp [St.newCell, upd] at e
theorem J.newLog (h : J σ P X) (W : Wf σ) (C : Cl σ) (s : String) (a c : Int) : J ((σ.newCell s).logAdd (.copy a c)) P ((σ.last + 1) :: X) := by
  have h1 := h.new W C s
  have h2 := new_logOk h.lg W (s := s) fun n hn => (h.lg.old n hn).2
  have fe : frees ((σ.newCell s).logAdd (.copy a c)).log = frees σ.log := by
    show frees (σ.log ++ [.copy a c]) = _
    rw [frees_app]; simp [frees]
  have e2 : ((σ.newCell s).logAdd (.copy a c)).log.length = (σ.newCell s).log.length + 1 := by simp [St.logAdd]
  have e3 : sumL ((σ.newCell s).logAdd (.copy a c)).keys (fun n => if ((σ.newCell s).logAdd (.copy a c)).isD n then (1 : Int) else 2) = sumL (σ.newCell s).keys (fun n => if (σ.newCell s).isD n then 1 else 2) := rfl
  have e4 : ((σ.newCell s).logAdd (.copy a c)).last = (σ.newCell s).last := rfl
  have sh : Shape (σ.newCell s) ((σ.newCell s).logAdd (.copy a c)) := ⟨rfl, rfl, rfl⟩
  refine ⟨h1.bal, fun n hn => sh.rch (h1.full n hn), h1.pok, ⟨h1.buf.mem, h1.buf.nd, h1.buf.sub, h1.buf.col⟩, h1.pos, ⟨by rw [fe]; exact h.lg.nd, fun n hn => ?_, by rw [fe]; exact h.lg.freed, ?_⟩, h1.obj⟩
  · rw [fe] at hn; exact h1.lg.old n hn
  · rw [e2, e3, e4]; lia
end
end Mine
end
noncomputable section
namespace Mine
section
variable {σ : St} {b i : Nat} {P : List Val} {X : List Int}
theorem Live.full {n : Int} (h : Live σ n) : Rch σ (RootF σ P X) n := h.mono (fun _ h => .root (.inl h)) fun _ _ hm hk h => .step h hm hk
theorem put_last (p : Pl) (j : Int) (v : Val) : (σ.put p j v).last = σ.last := to_last _ _ _
theorem put_keys (p : Pl) (j : Int) (v : Val) : (σ.put p j v).keys = σ.keys := to_keys _ _ _
theorem put_vk {p : Pl} {j : Int} {v : Val} (h : ∀ q ∈ σ.vars, 0 ≤ q.1 ∧ q.1 < 5) (hv : p = .vars → 0 ≤ j ∧ j < 5) : ∀ q ∈ (σ.put p j v).vars, 0 ≤ q.1 ∧ q.1 < 5 := fun q hq => by
  cases p with
  | vars =>
    rcases putA_mem hq with z | z
    · exact h q z
    · subst z; exact hv rfl
  | cell n => exact h q hq
theorem K.put {v : Val} (h : K σ b i (v :: P) X) {p : Pl} (hp : σ.ok p) {j : Int} (hb : b + 1 ≤ 200) (hr : ∀ n, p = .cell n → σ.sort n = "ref" → j = 0 ∧ isRef σ v = false) (hv : p = .vars → 0 ≤ j ∧ j < 5) (hq : ∀ n, p = .cell n → Rch σ (RootF σ P X) n) :
    K (σ.put p j v) (b + 1) i (old (σ.at p) j ++ P) X :=
  ⟨h.J.put h.G.W h.G.C hp hq, h.G.put hp (h.J.pok v (List.mem_cons_self ..)) hb hr, put_vk h.vk hv, by rw [put_last]; exact h.last, by rw [put_keys]; exact h.len⟩
theorem K.del (h : K σ b i P X) {p : Pl} (hp : σ.ok p) {j : Int} (hr : ∀ n, p = .cell n → σ.sort n ≠ "ref") : K (σ.del p j) b i (old (σ.at p) j ++ P) X :=
  ⟨h.J.del h.G.W h.G.C hp, h.G.del hp hr, fun q hq => (by
    cases p with
    | vars => exact h.vk q (delA_mem hq)
    | cell n => exact h.vk q hq), by show (σ.to _ _ _).last ≤ _; rw [to_last]; exact h.last, by show (σ.to _ _ _).keys.length ≤ _; rw [to_keys]; exact h.len⟩
theorem K.written {v : Val} (h : K σ b i (v :: P) X) {p : Pl} (hp : σ.ok p) {j : Int} (hb : b + 1 ≤ 200) (hvr : isRef σ v = false) (hr : ∀ n, p = .cell n → σ.sort n = "ref" → j = 0) (hv : p = .vars → 0 ≤ j ∧ j < 5) (hq : ∀ n, p = .cell n → Live σ n) :
    K (written σ p j v).1 (b + 1) i ((written σ p j v).2 ++ P) X := by
  refine h.put (wtgt_ok h.G.C hp j) hb (fun n e hs => ⟨wtgt_ref h.G.C hp hr n e hs, hvr⟩) (fun e => ?_) fun n e => ?_
  · unfold wtgt at e ⊢
    split at e
    · split at e
      · cases e
      · rename_i h2; rw [if_neg h2]; exact hv e
    · exact hv e
  · have : Live σ n := by
      unfold wtgt at e
      split at e
      · rename_i m hl
        split at e
        · cases e
          cases p with
          | vars => exact .root (vr_iff.mpr ⟨(j, .cell n), mem_of_lk hl, rfl⟩)
          | cell m => exact .step (hq m rfl) hp (kid_iff.mpr ⟨(j, .cell n), mem_of_lk hl, rfl⟩)
        · exact hq n e
      · exact hq n e
    exact this.full
theorem copied_fold {c m : Int} (hc : c ∈ σ.keys) (hcm : c ≠ m) (l : List Int) : ∀ {pre : List Int} {N : Nat} {σj : St}, CP σ c m N σj → J σj P [m] → (σj.slots m).map (·.1) = pre → (pre ++ l).Nodup → N + l.length ≤ 200 → J (l.foldl (copyStep c m) σj) P [m] := by
  induction l with
  | nil => intro pre N σj _ h _ _ _; exact h
  | cons a r ih =>
    intro pre N σj Q h hp hnd hl
    rw [List.length_cons] at hl
    have hcj : c ∈ σj.keys := by rw [Q.keys]; exact List.mem_append_left _ hc
    have hmj : m ∈ σj.keys := by rw [Q.keys]; simp
    have hv : okV σj (inCopy σj c (look (σj.slots c) a)) := inCopy_ok Q.C (look_ok Q.C (p := .cell c) hcj a)
    have hna : a ∉ pre := fun q => (List.nodup_append.mp hnd).2.2 a q a (List.mem_cons_self ..) rfl
    have Q1 := Q.step hc hcm (by lia) a
    have key : J (copyStep c m σj a) P [m] ∧ ((copyStep c m σj a).slots m).map (·.1) = pre ++ [a] := by
      unfold copyStep
      generalize inCopy σj c (look (σj.slots c) a) = v at hv
      have hj := h.gain hv
      have gs : (σj.gain v).slots = σj.slots := by cases v <;> rfl
      have gk : (σj.gain v).keys = σj.keys := by cases v <;> rfl
      have hlk : ((σj.gain v).at (.cell m)).lookup a = none := by
        have e1 : (σj.gain v).at (.cell m) = σj.slots m := by show (σj.gain v).slots m = _; rw [gs]
        rw [e1]
        cases e : (σj.slots m).lookup a with
        | none => rfl
        | some u => exact absurd (hp ▸ lk_some.mp (by rw [e]; rfl)) hna
      have h2 := hj.put (p := .cell m) (j := a) (Q.W.gain v) (Q.C.gain v) (by show m ∈ _; rw [gk]; exact hmj) fun n e => by cases e; exact .root (.inr (.inr (.inr (by simp))))
      rw [old_nil hlk, List.nil_append] at h2
      refine ⟨h2, ?_⟩
      show (upd (σj.gain v).slots m (putA ((σj.gain v).at (.cell m)) a v) m).map (·.1) = _
      rw [upd_self]
      unfold putA
      rw [hlk]
      simp only [Option.isSome_none, Bool.false_eq_true, if_false, List.map_append, List.map_cons, List.map_nil]
      have e1 : (σj.gain v).at (.cell m) = σj.slots m := by show (σj.gain v).slots m = _; rw [gs]
      rw [e1, hp]
    rw [List.foldl_cons]
    exact ih Q1 key.1 key.2 (by rw [List.append_assoc]; exact hnd) (by lia)
theorem copied_J (h : J σ P []) (G : Good σ b) (hb : b + 1 ≤ 199) {c : Int} (hc : c ∈ σ.keys) : J (copied σ c) P [σ.last + 1] := by
  have hs : (σ.slots c).length ≤ b := G.at_ (.cell c) hc
  have P0 := CP.start G.W G.C hc (by have := G.keys; lia) (by have := G.log; lia)
  exact copied_fold (pre := []) hc (new_ne G.W hc) _ P0 (h.newLog G.W G.C "array" c (σ.last + 1)) (by simp [St.logAdd, St.newCell, upd]) (by simpa using G.W.nds c hc) (by simp; lia)
theorem valueOf_live {x c : Int} (C : Cl σ) (h : valueOf σ x = .cell c) : Live σ c := by
  unfold valueOf at h
  have hv : ∀ n, look σ.vars x = .cell n → vr σ n := fun n e => by
    unfold look at e
    cases hl : σ.vars.lookup x with
    | none => rw [hl] at e; cases e
    | some u => rw [hl] at e; exact vr_iff.mpr ⟨(x, u), mem_of_lk hl, e⟩
  cases hl : look σ.vars x with
  | int a => rw [hl] at h; cases h
  | cell n =>
    have hn := hv n hl
    rw [hl, inner_cell] at h
    split at h
    · rename_i hr
      refine .step (.root hn) (vr_ok C hn) (kid_iff.mpr ?_)
      unfold slot0 at h
      cases h0 : (σ.slots n).lookup 0 with
      | none => rw [h0] at h; cases h
      | some u => rw [h0] at h; exact ⟨(0, u), mem_of_lk h0, h⟩
    · cases h; exact .root hn
theorem K.container (h : K σ b i P []) (hb : b + 2 ≤ 199) {x c : Int} (hx : 0 ≤ x ∧ x < 5) (hc : valueOf σ x = .cell c) :
    K (Mine.container σ x).1 (b + 2) (i + 1) ((Mine.container σ x).2.2 ++ P) [] ∧ (Mine.container σ x).2.1 ∈ (Mine.container σ x).1.keys ∧ (Mine.container σ x).1.sort (Mine.container σ x).2.1 ≠ "ref" ∧ Live (Mine.container σ x).1 (Mine.container σ x).2.1 ∧ Grow σ (Mine.container σ x).1 := by
  obtain ⟨gG, gg, gk, gs⟩ := h.G.container hb hc
  have hck : c ∈ σ.keys := by have := valueOf_ok h.G.C x; rw [hc] at this; exact this
  refine ⟨?_, gk, gs, ?_, gg⟩
  · unfold Mine.container at gG ⊢
    rw [hc] at gG ⊢
    dsimp only at gG ⊢
    split
    · exact (h.mono (by lia) (by lia))
    · rename_i hk
      rw [if_neg hk] at gG
      obtain ⟨CPc, f1, f2, f3, f4⟩ := copied_facts h.G (by lia) hck
      obtain ⟨G1, g1, hm, ha⟩ := h.G.copied (by lia) hck
      have J1 := copied_J h.J h.G (by lia) hck
      have J2 : Mine.J ((Mine.copied σ c).cnt (σ.last + 1) 1) (.cell (σ.last + 1) :: P) [σ.last + 1] := J1.gain (v := .cell (σ.last + 1)) hm
      have K2 : K ((Mine.copied σ c).cnt (σ.last + 1) 1) (b + 1) (i + 1) (.cell (σ.last + 1) :: P) [] := by
        refine ⟨J2.unX (by simp), G1.cnt _ _, ?_, ?_, ?_⟩
        · show ∀ p ∈ (Mine.copied σ c).vars, _; rw [f1]; exact h.vk
        · show (Mine.copied σ c).last ≤ _; rw [f2]; have := h.last; lia
        · show (Mine.copied σ c).keys.length ≤ _; rw [CPc.keys]; have := h.len; simp; lia
      have hvr : isRef ((Mine.copied σ c).cnt (σ.last + 1) 1) (.cell (σ.last + 1)) = false := nr_of_sort (by show (Mine.copied σ c).sort _ ≠ _; rw [ha]; decide)
      exact K2.written (p := .vars) trivial (by lia) hvr (fun n e => by cases e) (fun _ => hx) fun n e => by cases e
  · unfold Mine.container
    rw [hc]
    dsimp only
    split
    · exact valueOf_live h.G.C hc
    · obtain ⟨CPc, f1, f2, f3, f4⟩ := copied_facts h.G (by lia) hck
      obtain ⟨G1, g1, hm, ha⟩ := h.G.copied (by lia) hck
      generalize hτ : (Mine.copied σ c).cnt (σ.last + 1) 1 = τ
      have Wτ : Wf τ := hτ ▸ (G1.cnt _ _).W
      have Cτ : Cl τ := hτ ▸ (G1.cnt _ _).C
      unfold Mine.written wtgt
      dsimp only
      split
      · rename_i n hl
        split
        · rename_i hr
          have hnm : n ∈ τ.keys := (isRef_iff.mp hr).1
          refine .step (.root (vr_iff.mpr ⟨(x, .cell n), mem_of_lk hl, rfl⟩)) hnm (kid_iff.mpr ⟨(0, .cell (σ.last + 1)), ?_, rfl⟩)
          show _ ∈ upd τ.slots n (putA (τ.slots n) 0 _) n
          rw [upd_self]; exact putA_mem_self _ _ _
        · exact .root (vr_iff.mpr ⟨(x, .cell (σ.last + 1)), putA_mem_self _ _ _, rfl⟩)
      · exact .root (vr_iff.mpr ⟨(x, .cell (σ.last + 1)), putA_mem_self _ _ _, rfl⟩)
theorem K.refIn (h : K σ b i P []) (hb : b + 1 ≤ 199) {j : Int} (hj : 0 ≤ j ∧ j < 5) : K (Mine.refIn σ .vars j).1 (b + 1) (i + 1) P [] := by
  obtain ⟨GG, gg, _, _⟩ := refIn_facts h.G hb (p := .vars) trivial j (by intro n e; cases e)
  unfold Mine.refIn at GG gg ⊢
  dsimp only at GG gg ⊢
  split
  · exact h.mono (by lia) (by lia)
  · rename_i hr
    rw [if_neg hr] at GG gg
    have W := h.G.W
    have C := h.G.C
    have J1 := h.J.new W C "ref"
    obtain ⟨held, hh⟩ : ∃ held, held = look (σ.at .vars) j := ⟨_, rfl⟩
    rw [← hh] at GG gg ⊢
    obtain ⟨σ1, hσ1⟩ : ∃ σ1, σ1 = σ.newCell "ref" := ⟨_, rfl⟩
    rw [← hσ1] at GG gg J1 ⊢
    have k1 : σ1.keys = σ.keys ++ [σ.last + 1] := by rw [hσ1]; rfl
    have s1 : σ1.slots (σ.last + 1) = [] := by rw [hσ1]; simp [St.newCell, upd]
    have v1 : σ1.vars = σ.vars := by rw [hσ1]; rfl
    have hm1 : σ.last + 1 ∈ σ1.keys := by rw [k1]; simp
    have nd1 : σ1.keys.Nodup := by
      rw [k1]; exact List.nodup_append.mpr ⟨W.ndk, by simp, fun a ha b hb e => by rw [List.mem_singleton.mp hb] at e; exact new_ne W ha e⟩
    have r1 : ∀ x, refs σ1 x = refs σ x := fun x => by rw [hσ1]; exact new_refs W x
    have r2 : ∀ x, refs (σ1.put (.cell (σ.last + 1)) 0 held) x = refs σ x + pc [held] x := fun x => by
      have := refs_put (σ := σ1) (p := .cell (σ.last + 1)) hm1 nd1 (by show ((σ1.slots _).map _).Nodup; rw [s1]; simp) 0 held x
      have e : old (σ1.at (.cell (σ.last + 1))) 0 = [] := by show old (σ1.slots _) 0 = []; rw [s1]; rfl
      rw [e, pc_nil, r1] at this; lia
    obtain ⟨σ3, hσ3⟩ : ∃ σ3, σ3 = (σ1.put (.cell (σ.last + 1)) 0 held).cnt (σ.last + 1) 1 := ⟨_, rfl⟩
    rw [← hσ3] at GG gg ⊢
    have k3 : σ3.keys = σ1.keys := by rw [hσ3]; rfl
    have v3 : σ3.vars = σ.vars := by rw [hσ3, ← v1]; rfl
    have sh3 : Shape (σ1.put (.cell (σ.last + 1)) 0 held) σ3 := by rw [hσ3]; exact ⟨rfl, rfl, rfl⟩
    have s3 : σ3.slots (σ.last + 1) = [(0, held)] := by
      rw [hσ3]
      show upd σ1.slots (σ.last + 1) (putA (σ1.slots (σ.last + 1)) 0 held) (σ.last + 1) = _
      rw [upd_self, s1]; simp [putA]
    have s3' : ∀ n ∈ σ.keys, σ3.slots n = σ.slots n := fun n hn => by
      rw [hσ3]
      show upd σ1.slots (σ.last + 1) _ n = _
      rw [upd_ne _ _ (new_ne W hn), hσ1]; simp [St.newCell, upd, new_ne W hn]
    have pho : ∀ x, pc [held] x = pc (old σ.vars j) x := fun x => by
      have hh' : held = look σ.vars j := hh
      cases hl : σ.vars.lookup j with
      | none => rw [old_nil hl, hh']; unfold look; rw [hl]; rfl
      | some u => rw [old_some hl, hh']; unfold look; rw [hl]; rfl
    have r4 : ∀ x, refs (σ3.put .vars j (.cell (σ.last + 1))) x = refs σ x + pc [.cell (σ.last + 1)] x := fun x => by
      have := refs_put (σ := σ3) (p := .vars) trivial (k3 ▸ nd1) (by show (σ3.vars.map _).Nodup; rw [v3]; exact W.ndv) j (.cell (σ.last + 1)) x
      have e : old (σ3.at .vars) j = old σ.vars j := by show old σ3.vars j = _; rw [v3]
      rw [e, sh3.refs, r2, pho] at this; lia
    obtain ⟨σ4, hσ4⟩ : ∃ σ4, σ4 = σ3.put .vars j (.cell (σ.last + 1)) := ⟨_, rfl⟩
    rw [← hσ4] at GG gg r4 ⊢
    have k4 : σ4.keys = σ.keys ++ [σ.last + 1] := by rw [hσ4, ← k1, ← k3]; rfl
    have v4 : σ4.vars = putA σ.vars j (.cell (σ.last + 1)) := by rw [hσ4, ← v3]; rfl
    have c4 : ∀ n ∈ σ.keys, σ4.count n = σ.count n := fun n hn => by
      rw [hσ4, hσ3, hσ1]
      show upd (upd σ.count (σ.last + 1) 0) (σ.last + 1) _ n = _
      rw [upd_ne _ _ (new_ne W hn), upd_ne _ _ (new_ne W hn)]
    have c4' : σ4.count (σ.last + 1) = 1 := by
      rw [hσ4, hσ3, hσ1]
      show upd (upd σ.count (σ.last + 1) 0) (σ.last + 1) (upd σ.count (σ.last + 1) 0 (σ.last + 1) + 1) (σ.last + 1) = 1
      rw [upd_self, upd_self]; rfl
    have ki4 : ∀ n ∈ σ.keys, kids σ4 n = kids σ n := fun n hn => by
      have : σ4.slots n = σ.slots n := by rw [hσ4, ← s3' n hn]; rfl
      unfold kids hvals; rw [this]
    have b4 : BufOk σ4 := by
      have := J1.buf
      rw [hσ4, hσ3]; exact ⟨this.mem, this.nd, this.sub, this.col⟩
    have bu4 : σ4.buffer = σ.buffer := by rw [hσ4, hσ3, hσ1]; rfl
    have vm : vr σ4 (σ.last + 1) := vr_iff.mpr ⟨(j, .cell (σ.last + 1)), by rw [v4]; exact putA_mem_self _ _ _, rfl⟩
    have np : Val.cell (σ.last + 1) ∉ P := fun q => new_ne W (h.J.pok _ q) rfl
    refine ⟨⟨fun n hn => ?_, fun n hn => ?_, fun v hv => gg.okV (h.J.pok v hv), b4, ?_, ?_, ?_⟩, GG, ?_, ?_, ?_⟩
    · rw [r4, pc_cell]
      rw [k4] at hn
      rcases List.mem_append.mp hn with z | z
      · rw [c4 n z, if_neg (new_ne W z), h.J.bal n z]; lia
      · rw [List.mem_singleton.mp z, c4', if_pos rfl, new_refs0 W C, pc_zero np]; rfl
    · rw [k4] at hn
      rcases List.mem_append.mp hn with z | z
      · refine (h.J.full n z).mono (fun x hx => ?_) fun m x hm hx' h' => .step h' (by rw [k4]; exact List.mem_append_left _ hm) (by rw [ki4 m hm]; exact hx')
        rcases hx with q | q | q | q
        · obtain ⟨p, hp, e⟩ := vr_iff.mp q
          rcases putA_keep (j := j) (v := .cell (σ.last + 1)) W.ndv hp with y | y
          · exact .root (.inl (vr_iff.mpr ⟨p, by rw [v4]; exact y, e⟩))
          · have hp2 : p.2 = held := by
              have hh' : held = look σ.vars j := hh
              unfold old at y
              cases hl : σ.vars.lookup j with
              | none => rw [hl] at y; cases y
              | some u => rw [hl] at y; rw [hh']; unfold look; rw [hl]; exact List.mem_singleton.mp y
            refine .step (.root (.inl vm)) (by rw [k4]; simp) (kid_iff.mpr ⟨(0, held), ?_, by rw [← hp2]; exact e⟩)
            have : σ4.slots (σ.last + 1) = σ3.slots (σ.last + 1) := by rw [hσ4]; rfl
            rw [this, s3]; simp
        · exact .root (.inr (.inl q))
        · exact .root (.inr (.inr (.inl (by rw [bu4]; exact q))))
        · cases q
      · rw [List.mem_singleton.mp z]; exact .root (.inl vm)
    · have := J1.pos
      rw [hσ4, hσ3]; exact this
    · have := J1.lg
      rw [hσ4, hσ3]; exact ⟨this.nd, this.old, this.freed, this.len⟩
    · have := J1.obj
      rw [hσ4, hσ3]; exact this
    · intro p hp
      rw [v4] at hp
      rcases putA_mem hp with z | z
      · exact h.vk p z
      · subst z; exact hj
    · have : σ4.last = σ.last + 1 := by rw [hσ4, hσ3, hσ1]; rfl
      rw [this]; have := h.last; lia
    · rw [k4]; have := h.len; simp; lia
end
end Mine
end
noncomputable section
namespace Mine
noncomputable abbrev V5 (a : Int) : Prop := 0 ≤ a ∧ a < 5
noncomputable def DeedOk : Deed → Prop
  | .setInt a _ => V5 a
  | .newArray a => V5 a
  | .newObject a _ => V5 a
  | .assign a b => V5 a ∧ V5 b
  | .put a _ b => V5 a ∧ V5 b
  | .putRef a _ b => V5 a ∧ V5 b
  | .makeRef a b => V5 a ∧ V5 b
  | .unset a => V5 a
  | .unsetAt a _ => V5 a
section
variable {σ : St} {b i : Nat} {P : List Val} {X : List Int}
theorem K.newCell (h : K σ b i P []) {s : String} (hs : s ≠ "ref") (hb : b + 1 ≤ 200) : K ((σ.newCell s).cnt (σ.last + 1) 1) (b + 1) (i + 1) (.cell (σ.last + 1) :: P) [] := by
  have G1 := h.G.new hs hb
  have J1 : Mine.J ((σ.newCell s).cnt (σ.last + 1) 1) (.cell (σ.last + 1) :: P) [σ.last + 1] := (h.J.new h.G.W h.G.C s).gain (v := .cell (σ.last + 1)) (by show _ ∈ σ.keys ++ [_]; simp)
  refine ⟨J1.unX (by simp), G1.cnt _ _, h.vk, ?_, ?_⟩
  · show σ.last + 1 ≤ _; have := h.last; lia
  · show (σ.keys ++ [σ.last + 1]).length ≤ _; have := h.len; simp; lia
theorem K.setD (h : K σ b i P X) {n : Int} (hn : σ.sort n = "object") (d : Bool) : K (σ.setD n d) b i P X := by
  have sh : Shape σ (σ.setD n d) := ⟨rfl, rfl, rfl⟩
  refine ⟨⟨fun m hm => by rw [sh.refs]; exact h.J.bal m hm, fun m hm => sh.rch (h.J.full m hm), h.J.pok, ⟨h.J.buf.mem, h.J.buf.nd, h.J.buf.sub, h.J.buf.col⟩, h.J.pos, ⟨h.J.lg.nd, h.J.lg.old, h.J.lg.freed, h.J.lg.len⟩, fun m hm e => ?_⟩, h.G.setD n d, h.vk, h.last, h.len⟩
  by_cases z : m = n
  · subst z; exact hn
  · have : (σ.setD n d).hasD m = σ.hasD m := by show upd _ _ _ _ = _; rw [upd_ne _ _ z]
    rw [this] at e; exact h.J.obj m hm e
theorem change_ok (h : K σ b i [] []) (hb : b + 4 ≤ 195) {d : Deed} (hd : DeedOk d) : K (change σ d).1 (b + 4) (i + 2) (change σ d).2 [] := by
  have nil : ∀ l : List Val, l ++ [] = l := fun l => List.append_nil l
  cases d with
  | setInt a n =>
    have := (h.int n).written (p := .vars) (j := a) trivial (by lia) rfl (fun n e => by cases e) (fun _ => hd) fun n e => by cases e
    rw [nil] at this
    exact this.mono (by lia) (by lia)
  | newArray a =>
    have h1 := h.newCell (s := "array") (by decide) (by lia)
    have hvr : isRef ((σ.newCell "array").cnt (σ.last + 1) 1) (.cell (σ.last + 1)) = false := nr_of_sort (by show upd σ.sort _ _ _ ≠ _; rw [upd_self]; decide)
    have := h1.written (p := .vars) (j := a) trivial (by lia) hvr (fun n e => by cases e) (fun _ => hd) fun n e => by cases e
    rw [nil] at this
    exact this.mono (by lia) (by lia)
  | newObject a d =>
    have h1 := h.newCell (s := "object") (by decide) (by lia)
    have h2 := h1.setD (n := σ.last + 1) (by show upd σ.sort _ _ _ = _; rw [upd_self]) d
    have hvr : isRef (((σ.newCell "object").cnt (σ.last + 1) 1).setD (σ.last + 1) d) (.cell (σ.last + 1)) = false := nr_of_sort (by show upd σ.sort _ _ _ ≠ _; rw [upd_self]; decide)
    have := h2.written (p := .vars) (j := a) trivial (by lia) hvr (fun n e => by cases e) (fun _ => hd) fun n e => by cases e
    rw [nil] at this
    exact this.mono (by lia) (by lia)
  | assign a c =>
    have h1 := h.gain (valueOf_ok h.G.C c)
    have hvr : isRef (σ.gain (valueOf σ c)) (valueOf σ c) = false := by rw [(grow_gain _).isRef (valueOf_ok h.G.C c)]; exact valueOf_nr h.G.C c
    have := h1.written (p := .vars) (j := a) trivial (by lia) hvr (fun n e => by cases e) (fun _ => hd.1) fun n e => by cases e
    rw [nil] at this
    exact this.mono (by lia) (by lia)
  | put a j c =>
    simp only [change]
    cases hv : valueOf σ a with
    | int _ => exact h.mono (by lia) (by lia)
    | cell c0 =>
      dsimp only
      have hok := valueOf_ok h.G.C c
      have h1 := h.gain hok
      obtain ⟨h2, hm, hs, hl, hg⟩ := h1.container (by lia) hd.1 (c := c0) (by rw [valueOf_gain]; exact hv)
      generalize container (σ.gain (valueOf σ c)) a = r at h2 hm hs hl hg ⊢
      have hg2 : Grow σ r.1 := (grow_gain (valueOf σ c)).trans hg
      have h3 : K r.1 (b + 2) (i + 1) (valueOf σ c :: r.2.2) [] := h2.perm (by
        have := List.perm_append_comm (l₁ := r.2.2) (l₂ := [valueOf σ c]); exact this)
      have hvr : isRef r.1 (valueOf σ c) = false := by rw [hg2.isRef hok]; exact valueOf_nr h.G.C c
      have h4 := h3.written (p := .cell r.2.1) (j := j) hm (by lia) hvr (fun n e hs' => by cases e; exact absurd hs' hs) (fun e => by cases e) fun n e => by cases e; exact hl
      exact (h4.perm List.perm_append_comm).mono (by lia) (by lia)
  | putRef a j c =>
    simp only [change]
    cases hv : valueOf σ a with
    | int _ => exact h.mono (by lia) (by lia)
    | cell c0 =>
      dsimp only
      obtain ⟨G1, g1, hok, hrf⟩ := refIn_facts h.G (by lia) (p := .vars) trivial c (by intro n e; cases e)
      have h0 := h.refIn (by lia) hd.2
      have h1 := h0.gain hok
      have hval : valueOf ((refIn σ .vars c).1.gain (refIn σ .vars c).2) a = .cell c0 := by rw [valueOf_gain, valueOf_refIn h.G (by lia)]; exact hv
      obtain ⟨h2, hm, hs, hl, hg⟩ := h1.container (by lia) hd.1 (c := c0) hval
      generalize container ((refIn σ .vars c).1.gain (refIn σ .vars c).2) a = r at h2 hm hs hl hg ⊢
      have h3 : K r.1 (b + 1 + 2) (i + 1 + 1) ((refIn σ .vars c).2 :: r.2.2) [] := h2.perm (by
        have := List.perm_append_comm (l₁ := r.2.2) (l₂ := [(refIn σ .vars c).2]); exact this)
      have h4 := h3.put (p := .cell r.2.1) (j := j) hm (by lia) (fun n e hs' => by cases e; exact absurd hs' hs) (fun e => by cases e) fun n e => by cases e; exact hl.full
      exact (h4.perm List.perm_append_comm).mono (by lia) (by lia)
  | makeRef a c =>
    simp only [change]
    obtain ⟨G1, g1, hok, hrf⟩ := refIn_facts h.G (by lia) (p := .vars) trivial c (by intro n e; cases e)
    have h0 := h.refIn (by lia) hd.2
    have h1 := h0.gain hok
    have := h1.put (p := .vars) (j := a) trivial (by lia) (fun n e => by cases e) (fun _ => hd.1) fun n e => by cases e
    rw [nil] at this
    exact this.mono (by lia) (by lia)
  | unset a =>
    simp only [change]
    cases hl : σ.vars.lookup a with
    | none => exact h.mono (by lia) (by lia)
    | some u =>
      have := h.del (p := .vars) (j := a) trivial (fun n e => by cases e)
      have e : old (σ.at .vars) a = [u] := old_some hl
      rw [e] at this
      exact this.mono (by lia) (by lia)
  | unsetAt a j =>
    simp only [change]
    cases hv : valueOf σ a with
    | int _ => exact h.mono (by lia) (by lia)
    | cell c0 =>
      dsimp only
      obtain ⟨h2, hm, hs, hl, hg⟩ := h.container (by lia) hd (c := c0) hv
      generalize container σ a = r at h2 hm hs hl hg ⊢
      rw [nil] at h2
      cases hlk : (r.1.slots r.2.1).lookup j with
      | none => dsimp only; rw [nil]; exact h2.mono (by lia) (by lia)
      | some u =>
        dsimp only
        have h4 := h2.del (p := .cell r.2.1) (j := j) hm (fun n e => by cases e; exact hs)
        have e : old (r.1.at (.cell r.2.1)) j = [u] := old_some hlk
        rw [e] at h4
        exact (h4.perm List.perm_append_comm).mono (by lia) (by lia)
end
end Mine
end
noncomputable section
namespace Mine
section
variable {σ : St} {b i : Nat} {P : List Val} {X : List Int}
theorem K.log3 (h : K σ b i P X) : (σ.log.length : Int) ≤ 3 * i := by
  have h1 := h.J.lg.len
  have h2 := sumL_nonneg (l := σ.keys) (f := fun n => if σ.isD n then (1 : Int) else 2) fun n _ => by split <;> lia
  have := h.last
  lia
theorem K.dropInt {a : Int} (h : K σ b i (P ++ [.int a]) X) : K σ b i P X := by
  refine ⟨⟨fun n hn => ?_, fun n hn => ?_, fun v hv => h.J.pok v (List.mem_append_left _ hv), h.J.buf, h.J.pos, h.J.lg, h.J.obj⟩, h.G, h.vk, h.last, h.len⟩
  · have := pc_app P [.int a] n
    rw [pc_int] at this
    rw [h.J.bal n hn]; lia
  · exact (h.J.full n hn).mono (fun x hx => .root (by
      rcases hx with q | q | q | q
      · exact .inl q
      · rcases List.mem_append.mp q with z | z
        · exact .inr (.inl z)
        · cases List.mem_singleton.mp z
      · exact .inr (.inr (.inl q))
      · exact .inr (.inr (.inr q)))) fun m n hm hk h => .step h hm hk
theorem pc_snoc (n x : Int) : pc (P ++ [.cell n]) x = pc P x + if x = n then 1 else 0 := by rw [pc_app, pc_cell]
theorem K.loseHeld {n : Int} (h : K σ b i (P ++ [.cell n]) []) (hb : b ≤ 200) (hc : 0 < refs σ n + pc P n) : K (suspect (σ.cnt n (-1)) n) b i P [] := by
  have hn : n ∈ σ.keys := h.J.pok (.cell n) (by simp)
  obtain ⟨s1, s2, s3, s4, s5⟩ := suspect_facts (h.J.buf.cnt n (-1)) (n := n) hn
  have m0 : Mild σ (σ.cnt n (-1)) := ⟨rfl, rfl, rfl, rfl, rfl, rfl, rfl, rfl, rfl⟩
  have m1 : Mild σ (suspect (σ.cnt n (-1)) n) := m0.trans s2
  have ht : target (σ.cnt n (-1)) n = target σ n := rfl
  rw [ht] at s5
  generalize suspect (σ.cnt n (-1)) n = σ1 at s1 s2 s3 s4 s5 m1 ⊢
  have s4' : ∀ x ∈ σ.buffer, x ∈ σ1.buffer := s4
  have kidn : ∀ x ∈ kids σ n, n ∈ σ1.buffer ∨ x ∈ σ1.buffer := fun x hx => by
    by_cases hs : σ.sort n = "ref"
    · obtain ⟨u, hu⟩ := h.G.W.ref n hn hs
      obtain ⟨p, hp, e⟩ := kid_iff.mp hx
      rw [hu] at hp
      cases List.mem_singleton.mp hp
      have e' : u = .cell x := e
      subst e'
      have hxk := kids_mem h.G.C hn hx
      refine .inr (s5 x ?_)
      unfold target
      rw [if_pos hs]
      have : slot0 σ n = .cell x := by unfold slot0; rw [hu]; rfl
      rw [this]; dsimp only; rw [if_pos hxk]
    · refine .inl (s5 n ?_)
      unfold target; rw [if_neg hs]
  have reach : ∀ x, Rch σ (RootF σ (P ++ [.cell n]) []) x → x = n ∨ Rch σ1 (RootF σ1 P []) x := fun x hx => by
    induction hx with
    | root hr =>
      rcases hr with q | q | q | q
      · exact .inr (.root (.inl (by rw [m1.shape.vr]; exact q)))
      · rcases List.mem_append.mp q with z | z
        · exact .inr (.root (.inr (.inl z)))
        · cases List.mem_singleton.mp z; exact .inl rfl
      · exact .inr (.root (.inr (.inr (.inl (s4' _ q)))))
      · cases q
    | @step m x hr hm hk ih =>
      have hm1 : m ∈ σ1.keys := by rw [m1.keys]; exact hm
      have hk1 : x ∈ kids σ1 m := by rw [m1.shape.kids]; exact hk
      rcases ih with z | z
      · subst z
        rcases kidn x hk with y | y
        · exact .inr (.step (.root (.inr (.inr (.inl y)))) hm1 hk1)
        · exact .inr (.root (.inr (.inr (.inl y))))
      · exact .inr (.step z hm1 hk1)
  have rn : Rch σ1 (RootF σ1 P []) n := by
    by_cases hp : 0 < pc P n
    · exact .root (.inr (.inl (pc_pos.mp hp)))
    · have hr : 0 < refs σ n := by have := pc_nn P n; lia
      rcases held_of hr with q | ⟨m, hm, hk⟩
      · exact .root (.inl (by rw [m1.shape.vr]; exact q))
      · by_cases z : m = n
        · subst z
          rcases kidn m hk with y | y
          · exact .root (.inr (.inr (.inl y)))
          · exact .root (.inr (.inr (.inl y)))
        · rcases reach m (h.J.full m hm) with y | y
          · exact absurd y z
          · exact .step y (by rw [m1.keys]; exact hm) (by rw [m1.shape.kids]; exact hk)
  refine ⟨⟨fun x hx => ?_, fun x hx => ?_, fun v hv => ?_, s1, by rw [m1.keys, m1.last]; exact h.J.pos, h.J.lg.mild m1, by rw [m1.keys, m1.hasD, m1.sort]; exact h.J.obj⟩, h.G.mild m1 s1 hb, by rw [m1.vars]; exact h.vk, by rw [m1.last]; exact h.last, by rw [m1.keys]; exact h.len⟩
  · rw [m1.keys] at hx
    have h1 := h.J.bal x hx
    rw [pc_snoc] at h1
    rw [m1.shape.refs, s3]
    by_cases e : x = n
    · subst e
      show upd σ.count x _ x = _
      rw [upd_self]; rw [if_pos rfl] at h1; lia
    · show upd σ.count n _ x = _
      rw [upd_ne _ _ e]; rw [if_neg e] at h1; lia
  · rw [m1.keys] at hx
    rcases reach x (h.J.full x hx) with z | z
    · subst z; exact rn
    · exact z
  · have := h.J.pok v (List.mem_append_left _ hv)
    cases v with
    | int _ => trivial
    | cell m => show m ∈ σ1.keys; rw [m1.keys]; exact this
theorem K.begun {n : Int} (h : K σ b i (P ++ [.cell n]) []) (hb : b ≤ 98) (hi : i ≤ 100) (hd : σ.isD n = false) (hv : σ.vars.lookup (-n) = none) :
    K ((beginD (σ.cnt n (-1)) n).del .vars (-n)) b i (P ++ [.cell n]) [] ∧ ((beginD (σ.cnt n (-1)) n).del .vars (-n)).vars = σ.vars ∧ ((beginD (σ.cnt n (-1)) n).del .vars (-n)).isD n = true ∧ ((beginD (σ.cnt n (-1)) n).del .vars (-n)).keys = σ.keys ∧ ((beginD (σ.cnt n (-1)) n).del .vars (-n)).slots = σ.slots ∧ (∀ m, m ≠ n → ((beginD (σ.cnt n (-1)) n).del .vars (-n)).isD m = σ.isD m) := by
  have hn : n ∈ σ.keys := h.J.pok (.cell n) (by simp)
  obtain ⟨τ, hτ⟩ : ∃ τ, τ = (beginD (σ.cnt n (-1)) n).del .vars (-n) := ⟨_, rfl⟩
  rw [← hτ]
  have kτ : τ.keys = σ.keys := by rw [hτ]; rfl
  have slτ : τ.slots = σ.slots := by rw [hτ]; rfl
  have vτ : τ.vars = σ.vars := by
    rw [hτ]
    show delA (putA σ.vars (-n) (.cell n)) (-n) = σ.vars
    exact delA_putA hv
  have cτ : τ.count = σ.count := by
    rw [hτ]
    funext x
    show upd (upd σ.count n (σ.count n + -1)) n (upd σ.count n (σ.count n + -1) n + 1) x = σ.count x
    by_cases e : x = n
    · subst e; rw [upd_self, upd_self]; lia
    · rw [upd_ne _ _ e, upd_ne _ _ e]
  have iτ : τ.isD = upd σ.isD n true := by rw [hτ]; rfl
  have loτ : τ.log = σ.log ++ [.destruct n] := by rw [hτ]; rfl
  have soτ : τ.sort = σ.sort := by rw [hτ]; rfl
  have laτ : τ.last = σ.last := by rw [hτ]; rfl
  have frτ : τ.freed = σ.freed := by rw [hτ]; rfl
  have hdτ : τ.hasD = σ.hasD := by rw [hτ]; rfl
  have buτ : τ.buffer = σ.buffer ∧ τ.buffered = σ.buffered ∧ τ.colour = σ.colour := by rw [hτ]; exact ⟨rfl, rfl, rfl⟩
  clear hτ
  have sh : Shape σ τ := ⟨kτ, slτ, vτ⟩
  have fe : frees τ.log = frees σ.log := by rw [loτ, frees_app]; simp [frees]
  have hlog := h.log3
  refine ⟨⟨⟨fun x hx => ?_, fun x hx => ?_, fun v hv => ?_, ⟨fun x hx => ?_, by rw [buτ.1]; exact h.J.buf.nd, fun x hx => ?_, fun x hx => ?_⟩, by rw [kτ, laτ]; exact h.J.pos, ⟨by rw [fe]; exact h.J.lg.nd, fun x hx => ?_, by rw [frτ, fe]; exact h.J.lg.freed, ?_⟩, by rw [kτ, hdτ, soτ]; exact h.J.obj⟩, h.G.of_same kτ soτ slτ vτ laτ (by rw [loτ, List.length_append, List.length_singleton]; lia) (by rw [buτ.1]; have := h.J.buf.len; have := h.G.W.nkeys; lia) (by lia), by rw [vτ]; exact h.vk, by rw [laτ]; exact h.last, by rw [kτ]; exact h.len⟩, vτ, by rw [iτ, upd_self], kτ, slτ, fun m hm => by rw [iτ, upd_ne _ _ hm]⟩
  · rw [kτ] at hx; rw [cτ, sh.refs]; exact h.J.bal x hx
  · rw [kτ] at hx
    refine (sh.rch (h.J.full x hx)).mono (fun y hy => .root ?_) fun m n hm hk h => .step h hm hk
    unfold RootF; rw [sh.vr, buτ.1]; exact hy
  · have := h.J.pok v hv
    cases v with
    | int _ => trivial
    | cell m => show m ∈ τ.keys; rw [kτ]; exact this
  · rw [kτ] at hx; rw [buτ.1, buτ.2.1]; exact h.J.buf.mem x hx
  · rw [buτ.1] at hx; rw [kτ]; exact h.J.buf.sub x hx
  · rw [kτ] at hx; rw [buτ.1, buτ.2.2]; exact h.J.buf.col x hx
  · rw [fe] at hx; rw [kτ, laτ]; exact h.J.lg.old x hx
  · have h1 := h.J.lg.len
    have h2 := sumL_one (l := σ.keys) (f := fun m => if τ.isD m then (1 : Int) else 2) (g := fun m => if σ.isD m then 1 else 2) h.G.W.ndk hn fun m _ hm => by rw [iτ, upd_ne _ _ hm]
    have h3 : (if τ.isD n then (1 : Int) else 2) = 1 := by rw [iτ, upd_self]; rfl
    have h4 : (if σ.isD n then (1 : Int) else 2) = 2 := by rw [hd]; rfl
    rw [h3, h4] at h2
    rw [loτ, kτ, laτ, List.length_append, List.length_singleton]; lia
theorem K.freed {n : Int} (h : K σ b i (P ++ [.cell n]) []) (hb : b ≤ 98) (hi : i ≤ 100) (h0 : refs σ n + pc P n = 0) : K ((σ.cnt n (-1)).freeC n) b i (P ++ (hvals σ n).reverse) [] := by
  have hn : n ∈ σ.keys := h.J.pok (.cell n) (by simp)
  have rn := refs_nn σ n
  have pn := pc_nn P n
  have nv : ¬ vr σ n := fun q => by have := refs_pos_var q; lia
  have nk : ∀ m ∈ σ.keys, n ∉ kids σ m := fun m hm q => by have := refs_pos_kid hm q; lia
  have np : Val.cell n ∉ P := fun q => by have := pc_pos.mpr q; lia
  have C := h.G.C
  have W := h.G.W
  have hlog := h.log3
  have W0 : Wf (σ.cnt n (-1)) := W.cnt _ _
  have u0 : BufE (σ.cnt n (-1)) := (h.J.buf.cnt n (-1)).e
  have bu := freeC_buffer u0 (n := n) hn
  have bu' : ((σ.cnt n (-1)).freeC n).buffer = σ.buffer.erase n := bu
  have kk : ((σ.cnt n (-1)).freeC n).keys = σ.keys.filter (fun m => decide (m ≠ n)) := rfl
  have ue := u0.freeC (n := n) hn
  obtain ⟨τ, hτ⟩ : ∃ τ, τ = (σ.cnt n (-1)).freeC n := ⟨_, rfl⟩
  have Wτ : Wf τ := hτ ▸ W0.freeC n (by show σ.log.length + 1 ≤ 1000; lia)
  rw [← hτ] at bu' kk ue ⊢
  have slτ : τ.slots = σ.slots := by rw [hτ]; rfl
  have vτ : τ.vars = σ.vars := by rw [hτ]; rfl
  have soτ : τ.sort = σ.sort := by rw [hτ]; rfl
  have laτ : τ.last = σ.last := by rw [hτ]; rfl
  have loτ : τ.log = σ.log ++ [.free n] := by rw [hτ]; rfl
  have frτ : τ.freed = σ.freed + 1 := by rw [hτ]; rfl
  have iτ : τ.isD = σ.isD := by rw [hτ]; rfl
  have hdτ : τ.hasD = σ.hasD := by rw [hτ]; rfl
  have coτ : τ.colour = σ.colour := by rw [hτ]; rfl
  have cτ : ∀ x, x ≠ n → τ.count x = σ.count x := fun x e => by rw [hτ]; show upd σ.count n _ x = _; rw [upd_ne _ _ e]
  clear hτ
  have mem : ∀ x, x ∈ τ.keys ↔ x ∈ σ.keys ∧ x ≠ n := fun x => by rw [kk, List.mem_filter]; simp
  have kiτ : ∀ m, kids τ m = kids σ m := fun m => by unfold kids hvals; rw [slτ]
  have vrτ : vr τ = vr σ := by funext x; unfold vr vcells; rw [vτ]
  have okτ : ∀ v, okV σ v → v ≠ .cell n → okV τ v := fun v hv e => by
    cases v with
    | int _ => trivial
    | cell m => exact (mem m).mpr ⟨hv, fun q => e (q ▸ rfl)⟩
  have Cτ : Cl τ := by
    refine ⟨fun p hp => ?_, fun m hm p hp => ?_, fun m hm e p hp => ?_⟩
    · rw [vτ] at hp
      exact okτ _ (C.vars p hp) fun e => nv (vr_iff.mpr ⟨p, hp, e⟩)
    · rw [slτ] at hp
      have hm' := ((mem m).mp hm).1
      exact okτ _ (C.slots m hm' p hp) fun e => nk m hm' (kid_iff.mpr ⟨p, hp, e⟩)
    · rw [slτ] at hp; rw [soτ] at e
      have hm' := ((mem m).mp hm).1
      have h1 := C.nr m hm' e p hp
      have h2 := C.slots m hm' p hp
      cases hpv : p.2 with
      | int _ => rfl
      | cell x =>
        rw [hpv] at h1 h2
        have h2' : x ∈ σ.keys := h2
        simp only [isRef, h2', decide_true, Bool.true_and, soτ] at h1 ⊢
        rw [h1]; simp
  have Gτ : Good τ b := by
    refine ⟨Wτ, Cτ, by rw [kk]; exact Nat.le_trans (List.length_filter_le _ _) h.G.keys, fun p hp => ?_, by rw [loτ, List.length_append, List.length_singleton]; lia⟩
    cases p with
    | vars => show τ.vars.length ≤ b; rw [vτ]; exact h.G.at_ .vars trivial
    | cell m => show (τ.slots m).length ≤ b; rw [slτ]; exact h.G.at_ (.cell m) ((mem m).mp hp).1
  have rτ : ∀ x, refs τ x + kc σ n x = refs σ x := fun x => by
    unfold refs vcells
    rw [vτ, kk]
    have h1 : sumL (σ.keys.filter fun m => decide (m ≠ n)) (fun m => kc τ m x) = sumL (σ.keys.filter fun m => decide (m ≠ n)) (fun m => kc σ m x) := sumL_congr fun m _ => by unfold kc; rw [kiτ]
    have h2 := sumL_filter (f := fun m => kc σ m x) W.ndk hn
    lia
  have fe : frees τ.log = frees σ.log ++ [n] := by rw [loτ, frees_app]; rfl
  refine ⟨⟨fun x hx => ?_, fun x hx => ?_, fun v hv => ?_, ⟨ue.mem, ue.nd, ue.sub, fun x hx => ?_⟩, ⟨fun x hx => h.J.pos.1 x ((mem x).mp hx).1, by rw [laτ]; exact h.J.pos.2⟩, ⟨?_, fun x hx => ?_, ?_, ?_⟩, fun x hx => by rw [hdτ, soτ]; exact h.J.obj x ((mem x).mp hx).1⟩, Gτ, by rw [vτ]; exact h.vk, by rw [laτ]; exact h.last, by rw [kk]; exact Nat.le_trans (List.length_filter_le _ _) h.len⟩
  · obtain ⟨hx1, hx2⟩ := (mem x).mp hx
    have h1 := h.J.bal x hx1
    rw [pc_snoc, if_neg hx2] at h1
    have h2 := rτ x
    have h3 : pc (P ++ (hvals σ n).reverse) x = pc P x + kc σ n x := by rw [pc_app, pc_rev]; rfl
    rw [cτ x hx2, h3]; lia
  · obtain ⟨hx1, hx2⟩ := (mem x).mp hx
    have reach : ∀ y, Rch σ (RootF σ (P ++ [.cell n]) []) y → y = n ∨ Rch τ (RootF τ (P ++ (hvals σ n).reverse) []) y := fun y hy => by
      induction hy with
      | root hr =>
        rcases hr with q | q | q | q
        · exact .inr (.root (.inl (by rw [vrτ]; exact q)))
        · rcases List.mem_append.mp q with z | z
          · exact .inr (.root (.inr (.inl (List.mem_append_left _ z))))
          · cases List.mem_singleton.mp z; exact .inl rfl
        · rename_i y
          by_cases e : y = n
          · exact .inl e
          · exact .inr (.root (.inr (.inr (.inl (by rw [bu', erase_mem h.J.buf.nd]; exact ⟨e, q⟩)))))
        · cases q
      | @step m y hr hm hk ih =>
        by_cases e : m = n
        · subst e
          exact .inr (.root (.inr (.inl (List.mem_append_right _ (List.mem_reverse.mpr (cellsOf_mem.mp hk))))))
        · rcases ih with z | z
          · exact absurd z e
          · exact .inr (.step z ((mem m).mpr ⟨hm, e⟩) (by rw [kiτ]; exact hk))
    rcases reach x (h.J.full x hx1) with z | z
    · exact absurd z hx2
    · exact z
  · rcases List.mem_append.mp hv with z | z
    · exact okτ v (h.J.pok v (List.mem_append_left _ z)) fun e => np (e ▸ z)
    · rw [List.mem_reverse] at z
      obtain ⟨p, hp, e⟩ := List.mem_map.mp z
      refine okτ v (e ▸ C.slots n hn p hp) fun e2 => nk n hn (kid_iff.mpr ⟨p, hp, e.trans e2⟩)
  · obtain ⟨hx1, hx2⟩ := (mem x).mp hx
    rw [coτ, h.J.buf.col x hx1, bu']
    simp [erase_mem h.J.buf.nd, hx2]
  · rw [fe]
    exact List.nodup_append.mpr ⟨h.J.lg.nd, by simp, fun a ha c hc e => by rw [List.mem_singleton.mp hc] at e; subst e; exact (h.J.lg.old a ha).1 hn⟩
  · rw [fe] at hx
    rw [laτ]
    rcases List.mem_append.mp hx with z | z
    · exact ⟨fun q => (h.J.lg.old x z).1 ((mem x).mp q).1, (h.J.lg.old x z).2⟩
    · rw [List.mem_singleton.mp z]
      exact ⟨fun q => ((mem n).mp q).2 rfl, W.last n hn⟩
  · rw [frτ, fe, h.J.lg.freed, List.length_append, List.length_singleton]; lia
  · have h1 := h.J.lg.len
    have h2 := sumL_filter (f := fun m => if σ.isD m then (1 : Int) else 2) W.ndk hn
    have h3 : (1 : Int) ≤ if σ.isD n then 1 else 2 := by split <;> lia
    rw [loτ, kk, laτ, List.length_append, List.length_singleton, iτ]; lia
end
end Mine
end
noncomputable section
namespace Mine
section
variable {σ : St} {b i : Nat} {P : List Val} {X : List Int}
noncomputable def muS (σ : St) : Int := sumL σ.keys fun n => ((hvals σ n).length : Int) + if σ.isD n then 0 else 1
theorem muS_nn (σ : St) : 0 ≤ muS σ := sumL_nonneg fun n _ => by split <;> lia
theorem muS_bound (W : Wf σ) : muS σ ≤ 40200 := by
  have h1 : muS σ ≤ 201 * (σ.keys.length : Int) := sumL_const_le fun n hn => by
    have := hvals_len W hn
    split <;> lia
  have := W.nkeys
  lia
theorem muS_mild {σ' : St} (m : Mild σ σ') : muS σ' = muS σ := by
  unfold muS hvals
  rw [m.keys, m.slots, m.isD]
theorem settle_ok (hb : b ≤ 98) (hi : i ≤ 100) : ∀ (M : Nat) {σ : St} {us : List Val}, (us.length : Int) + muS σ ≤ M → M ≤ 50000 → K σ b i us [] → ∃ m σe, RunT σe m σ (us.map .lose) ∧ K σe b i [] [] ∧ σe.vars = σ.vars := by
  intro M
  induction M with
  | zero =>
    intro σ us hM _ h
    have := muS_nn σ
    have : us = [] := List.length_eq_zero_iff.mp (by lia)
    subst this
    exact ⟨0, σ, .done, h, rfl⟩
  | succ M ih =>
    intro σ us hM hM2 h
    by_cases he : us = []
    · subst he; exact ⟨0, σ, .done, h, rfl⟩
    obtain ⟨r, v, rfl⟩ := list_end us he
    rw [List.length_append, List.length_singleton] at hM
    have nn := muS_nn σ
    have fit := h.G.fit h.J.buf (by lia)
    have hrl : (r.map Task.lose).length ≤ 50000 := by rw [List.length_map]; lia
    rw [List.map_append, List.map_cons, List.map_nil]
    cases v with
    | int a =>
      obtain ⟨m, σe, run, hK, hv⟩ := ih (by lia) (by lia) h.dropInt
      refine ⟨m + 1, σe, RunT.step fit hrl (by show ([] : List Task).length ≤ _; simp) (fun d e => by cases e) ?_, hK, hv⟩
      show RunT σe m σ (r.map Task.lose ++ [])
      rw [List.append_nil]; exact run
    | cell n =>
      have hn : n ∈ σ.keys := h.J.pok (.cell n) (by simp)
      have hc : (σ.cnt n (-1)).count n = refs σ n + pc r n := by
        have h1 := h.J.bal n hn
        rw [pc_snoc, if_pos rfl] at h1
        show upd σ.count n _ n = _
        rw [upd_self]; lia
      have rn := refs_nn σ n
      have pn := pc_nn r n
      by_cases hp : 0 < refs σ n + pc r n
      · have lo : lose σ (.cell n) = (suspect (σ.cnt n (-1)) n, []) := by
          unfold lose; dsimp only; rw [if_pos hn, if_pos (by rw [hc]; exact hp)]
        have m0 : Mild σ (σ.cnt n (-1)) := ⟨rfl, rfl, rfl, rfl, rfl, rfl, rfl, rfl, rfl⟩
        have m1 : Mild σ (suspect (σ.cnt n (-1)) n) := m0.trans (suspect_facts (h.J.buf.cnt n (-1)) (n := n) hn).2.1
        obtain ⟨m, σe, run, hK, hv⟩ := ih (by rw [muS_mild m1]; lia) (by lia) (h.loseHeld (by lia) hp)
        refine ⟨m + 1, σe, RunT.step fit hrl (by show (lose σ _).2.length ≤ _; rw [lo]; simp) (fun d e => by cases e) ?_, hK, hv.trans m1.vars⟩
        show RunT σe m (lose σ _).1 (r.map Task.lose ++ (lose σ _).2)
        rw [lo, List.append_nil]; exact run
      · by_cases hw : (σ.hasD n && !σ.isD n) = true
        · have hd : σ.isD n = false := by
            have := (Bool.and_eq_true _ _).mp hw
            simpa using this.2
          have lo : lose σ (.cell n) = (beginD (σ.cnt n (-1)) n, [.deed (.unset (-n))]) := by
            unfold lose; dsimp only; rw [if_pos hn, if_neg (by rw [hc]; lia), if_pos hw]
          have hvn : σ.vars.lookup (-n) = none := by
            cases z : σ.vars.lookup (-n) with
            | none => rfl
            | some u =>
              have h1 := h.vk _ (mem_of_lk z)
              have h2 := h.J.pos.1 n hn
              simp only at h1; lia
          obtain ⟨K2, v2, i2, k2, s2, j2⟩ := h.begun hb hi hd hvn
          have v1 : (beginD (σ.cnt n (-1)) n).vars = putA σ.vars (-n) (.cell n) := rfl
          have ch : change (beginD (σ.cnt n (-1)) n) (.unset (-n)) = ((beginD (σ.cnt n (-1)) n).del .vars (-n), [.cell n]) := by
            have hlk : (beginD (σ.cnt n (-1)) n).vars.lookup (-n) = some (.cell n) := by rw [v1]; exact lookup_putA hvn
            simp only [change, hlk]
          have hlog := h.log3
          have G1 : Good ((((σ.cnt n (-1)).setIsD n).logAdd (.destruct n)).cnt n 1) b := h.G.of_same rfl rfl rfl rfl rfl (by simp only [St.cnt, St.logAdd, St.setIsD, List.length_append, List.length_singleton]; lia) (by show σ.buffer.length ≤ _; have := h.J.buf.len; have := h.G.W.nkeys; lia) (by lia)
          have G2 : Good (beginD (σ.cnt n (-1)) n) (b + 1) := G1.put (p := .vars) trivial (v := .cell n) hn (by lia) (fun m e => by cases e)
          have hmu : muS ((beginD (σ.cnt n (-1)) n).del .vars (-n)) + 1 = muS σ := by
            have h1 := sumL_one (l := σ.keys) (f := fun m => ((hvals ((beginD (σ.cnt n (-1)) n).del .vars (-n)) m).length : Int) + if ((beginD (σ.cnt n (-1)) n).del .vars (-n)).isD m then 0 else 1) (g := fun m => ((hvals σ m).length : Int) + if σ.isD m then 0 else 1) h.G.W.ndk hn fun m _ hm => by
              unfold hvals; rw [s2, j2 m hm]
            have h2 : (hvals ((beginD (σ.cnt n (-1)) n).del .vars (-n)) n) = hvals σ n := by unfold hvals; rw [s2]
            rw [i2, hd, h2] at h1
            simp only [if_true, Bool.false_eq_true, if_false] at h1
            unfold muS
            rw [k2]; lia
          obtain ⟨m, σe, run, hK, hv⟩ := ih (by rw [List.length_append, List.length_singleton]; lia) (by lia) K2
          refine ⟨m + 1 + 1, σe, RunT.step fit hrl (by show (lose σ _).2.length ≤ _; rw [lo]; simp) (fun d e => by cases e) ?_, hK, hv.trans v2⟩
          show RunT σe (m + 1) (lose σ _).1 (r.map Task.lose ++ (lose σ _).2)
          rw [lo]
          refine RunT.step (Fit.of G2 (by lia) ?_ ?_) hrl ?_ (fun d e => G2.mono (by lia)) ?_
          · show σ.buffer.length ≤ 150
            have := h.J.buf.len; have := h.G.keys; lia
          · intro x hx e
            have e' : σ.buffered x = true := e
            have := h.J.buf.mem x hx
            rw [e'] at this
            have h3 : x ∈ σ.buffer := by simpa using this.symm
            exact h3
          · show ((change _ _).2.reverse.map Task.lose).length ≤ _
            rw [ch]; simp
          · show RunT σe m (change _ _).1 (r.map Task.lose ++ (change _ _).2.reverse.map Task.lose)
            rw [ch]
            rw [List.map_append] at run
            exact run
        · have lo : lose σ (.cell n) = ((σ.cnt n (-1)).freeC n, (hvals σ n).reverse.map .lose) := by
            unfold lose; dsimp only; rw [if_pos hn, if_neg (by rw [hc]; lia), if_neg hw]
          have K2 := h.freed hb hi (by lia)
          have hmu : muS ((σ.cnt n (-1)).freeC n) + (hvals σ n).length ≤ muS σ := by
            have h1 := sumL_filter (f := fun m => ((hvals σ m).length : Int) + if σ.isD m then 0 else 1) h.G.W.ndk hn
            have h2 : muS ((σ.cnt n (-1)).freeC n) = sumL (σ.keys.filter fun m => decide (m ≠ n)) (fun m => ((hvals σ m).length : Int) + if σ.isD m then 0 else 1) := rfl
            have h3 : (0 : Int) ≤ if σ.isD n then 0 else 1 := by split <;> lia
            unfold muS at h2 ⊢
            lia
          obtain ⟨m, σe, run, hK, hv⟩ := ih (by rw [List.length_append, List.length_reverse]; lia) (by lia) K2
          refine ⟨m + 1, σe, RunT.step fit hrl (by show (lose σ _).2.length ≤ _; rw [lo]; have := hvals_len h.G.W hn; simp; lia) (fun d e => by cases e) ?_, hK, hv⟩
          show RunT σe m (lose σ _).1 (r.map Task.lose ++ (lose σ _).2)
          rw [lo]
          rw [List.map_append] at run
          exact run
theorem change_len (d : Deed) : (change σ d).2.length ≤ 2 := by
  have cl : ∀ (τ : St) x, (container τ x).2.2.length ≤ 1 := fun τ x => container_len (σ := τ) x
  have ol : ∀ es j, (old es j).length ≤ 1 := old_len
  cases d with
  | setInt a n => exact Nat.le_trans (ol _ _) (by lia)
  | newArray a => exact Nat.le_trans (ol _ _) (by lia)
  | newObject a d => exact Nat.le_trans (ol _ _) (by lia)
  | assign a c => exact Nat.le_trans (ol _ _) (by lia)
  | put a j c =>
    simp only [change]
    split
    · simp
    · have h1 := cl (σ.gain (valueOf σ c)) a
      dsimp only
      rw [List.length_append]
      have h2 : (written (container (σ.gain (valueOf σ c)) a).1 (.cell (container (σ.gain (valueOf σ c)) a).2.1) j (valueOf σ c)).2.length ≤ 1 := ol _ _
      lia
  | putRef a j c =>
    simp only [change]
    split
    · simp
    · have h1 := cl ((refIn σ .vars c).1.gain (refIn σ .vars c).2) a
      dsimp only
      rw [List.length_append]
      have h2 := ol ((container ((refIn σ .vars c).1.gain (refIn σ .vars c).2) a).1.slots (container ((refIn σ .vars c).1.gain (refIn σ .vars c).2) a).2.1) j
      lia
  | makeRef a c => exact Nat.le_trans (ol _ _) (by lia)
  | unset a =>
    simp only [change]
    split <;> simp
  | unsetAt a j =>
    simp only [change]
    split
    · simp
    · have h1 := cl σ a
      split <;> simp <;> lia
theorem deed_ok (h : K σ b i [] []) (hb : b + 4 ≤ 98) (hi : i + 2 ≤ 100) {d : Deed} (hd : DeedOk d) : ∃ m σe, RunT σe m σ [.deed d] ∧ K σe (b + 4) (i + 2) [] [] ∧ σe.vars = (change σ d).1.vars := by
  have h1 := change_ok h (by lia) hd
  have hl := change_len (σ := σ) d
  have h2 := h1.perm (List.reverse_perm _).symm
  have hm := muS_bound h1.G.W
  obtain ⟨m, σe, run, hK, hv⟩ := settle_ok hb hi 50000 (by rw [List.length_reverse]; lia) (by lia) h2
  refine ⟨m + 1, σe, RunT.step (ts := []) (h.G.fit h.J.buf (by lia)) (by simp) ?_ (fun d e => h.G.mono (by lia)) ?_, hK, hv⟩
  · show ((change σ d).2.reverse.map Task.lose).length ≤ _
    simp; lia
  · exact run
theorem K.inv (h : K σ b i [] []) (hb : b ≤ 98) (hi : i ≤ 60) : Inv σ b := ⟨h.J, h.G, hb, by have := h.last; lia, by have := h.len; lia, fun p hp => (h.vk p hp).1⟩
theorem Inv.k {σ' : St} (h : K σ b i [] []) (I : Inv σ' b) (c : Col σ σ') : K σ' b i [] [] :=
  ⟨I.J, I.G, by rw [c.vars]; exact h.vk, by rw [c.last]; exact h.last, by rw [c.keys]; exact Nat.le_trans (List.length_filter_le _ _) h.len⟩
end
end Mine
end
noncomputable section
namespace Mine
open PySem PySem.W PyProof.Rows
section
variable {σ : St} {H : Hp} {k b i : Nat} {Q : V → Hp → Prop}
noncomputable def told : List Int := [1, 11, 21, 54, 14, 354, 8, 18, 501, 4, 8, 5032, 10, 66, 18, 143]
theorem sp_law_told (R : Rep σ H) (q : ∀ N H', Rep σ H' → Lk H H' → H (.loc N) = none → H' (.loc N) = some (.list (told.map V.int)) → Q (.obj (.loc N)) H') : callP tab (k + 1) "_law_told" [] Q H := by
  refine c_fn rfl rfl ?_
  unfold b_law_told
  walk_at "mw"
  exact new_loc R _ fun N H1 R1 L1 hN e1 => q N H1 R1 L1 hN (by rw [e1, Hp.set_self]; rfl)
theorem fmod5 (x : Int) : V5 (x.fmod 5) := by
  refine ⟨Int.fmod_nonneg_of_pos _ (by lia), Int.fmod_lt_of_pos _ (by lia)⟩
theorem fmod10 (x : Int) : x.fmod 10 = 0 ∨ x.fmod 10 = 1 ∨ x.fmod 10 = 2 ∨ x.fmod 10 = 3 ∨ x.fmod 10 = 4 ∨ x.fmod 10 = 5 ∨ x.fmod 10 = 6 ∨ x.fmod 10 = 7 ∨ x.fmod 10 = 8 ∨ x.fmod 10 = 9 := by
  have h1 := Int.fmod_nonneg_of_pos x (show (0 : Int) < 10 by lia)
  have h2 := Int.fmod_lt_of_pos x (show (0 : Int) < 10 by lia)
  lia
theorem sp_law_deed {x : Int} (R : Rep σ H) (q : ∀ d H', DeedOk d → Rep σ H' → Lk H H' → Q d.toV H') : callP tab (k + 1) "_law_deed" [.int x] Q H := by
  refine c_fn rfl rfl ?_
  have ha := fmod5 (x.fdiv 10)
  have hb := fmod5 (x.fdiv 50)
  have h10 := fmod10 x
  unfold b_law_deed
  refine s_assignTup ?_
  walk_at "mw"
  refine b_modi (by decide) ?_
  generalize x.fmod 10 = way at h10 ⊢
  walk_at "mw"
  refine b_fdivi (by decide) (by decide) ?_
  walk_at "mw"
  refine b_modi (by decide) ?_
  generalize (x.fdiv 10).fmod 5 = a at ha ⊢
  walk_at "mw"
  refine b_fdivi (by decide) (by decide) ?_
  walk_at "mw"
  refine b_modi (by decide) ?_
  generalize (x.fdiv 50).fmod 5 = c at hb ⊢
  walk_at "mw"
  refine b_fdivi (by decide) (by decide) ?_
  walk_at "mw"
  refine b_modi (by decide) ?_
  generalize (x.fdiv 250).fmod 2 = key
  walk_at "mw"
  refine b_fdivi (by decide) (by decide) ?_
  generalize x.fdiv 500 = n
  walk_at "mw"
  obtain ⟨ρ1, hρ1⟩ : ∃ ρ1, ρ1 = ((((((Env.upd (fun _ => none) "x" (.int x)).upd "way" (.int way)).upd "a" (.int a)).upd "b" (.int c)).upd "key" (.int key)).upd "n" (.int n)) := ⟨_, rfl⟩
  refine ⟨_, ρ1, rfl, by rw [hρ1]; rfl, ?_⟩
  have v1 : ρ1 "way" = some (.int way) := by rw [hρ1]; rfl
  have v2 : ρ1 "a" = some (.int a) := by rw [hρ1]; rfl
  have v3 : ρ1 "b" = some (.int c) := by rw [hρ1]; rfl
  have v4 : ρ1 "key" = some (.int key) := by rw [hρ1]; rfl
  have v5 : ρ1 "n" = some (.int n) := by rw [hρ1]; rfl
  clear hρ1
  refine s_assign (i_list ?_)
  refine i_cons (i_tup (i_cons (i_str (i_cons (i_tup (i_cons (i_var v2 (i_nil ?_)))))))); refine i_nil ?_
  refine i_cons (i_tup (i_cons (i_str (i_cons (i_tup (i_cons (i_var v2 (i_cons (i_cmp (i_bin (i_var v5 (i_int (b_modi (by decide) ?_)))))))))))))
  refine i_int ⟨_, _, rfl, rfl, ?_⟩
  refine i_nil (i_nil ?_)
  walk_at "mw"
  refine b_modi (by decide) ?_
  walk_at "mw"
  refine new_loc R _ fun N H1 R1 L1 hN e1 => ?_
  have e1' := (congrFun e1 (.loc N)).trans (Hp.set_self _ _ _)
  clear e1
  refine s_ret (i_idx (i_var rfl (i_var v1 ?_)))
  simp only [idxOf, e1', numI, objI, atI]
  show ∃ u, _ ∧ Q u H1
  rcases h10 with rfl | rfl | rfl | rfl | rfl | rfl | rfl | rfl | rfl | rfl
  · exact ⟨_, rfl, q (.newArray a) H1 ha R1 L1⟩
  · exact ⟨_, rfl, q (.newObject a _) H1 ha R1 L1⟩
  · exact ⟨_, rfl, q (.setInt a _) H1 ha R1 L1⟩
  · exact ⟨_, rfl, q (.assign a c) H1 ⟨ha, hb⟩ R1 L1⟩
  · exact ⟨_, rfl, q (.put a key c) H1 ⟨ha, hb⟩ R1 L1⟩
  · exact ⟨_, rfl, q (.put a key c) H1 ⟨ha, hb⟩ R1 L1⟩
  · exact ⟨_, rfl, q (.putRef a key c) H1 ⟨ha, hb⟩ R1 L1⟩
  · exact ⟨_, rfl, q (.makeRef a c) H1 ⟨ha, hb⟩ R1 L1⟩
  · exact ⟨_, rfl, q (.unset a) H1 ha R1 L1⟩
  · exact ⟨_, rfl, q (.unsetAt a key) H1 ha R1 L1⟩
noncomputable def σ0 : St := ⟨[], fun _ => "", fun _ => 0, fun _ => [], fun _ => 0, fun _ => "black", fun _ => false, fun _ => false, fun _ => false, [], 0, 0, [], 0, [], 0, 0⟩
theorem k0 : K σ0 5 0 [] [] := by
  refine ⟨⟨fun n hn => (by cases hn), fun n hn => (by cases hn), fun v hv => (by cases hv), ⟨fun n hn => (by cases hn), by simp [σ0], fun n hn => (by cases hn), fun n hn => (by cases hn)⟩, ⟨fun n hn => (by cases hn), Int.le_refl _⟩, ⟨by simp [σ0, frees], fun n hn => (by cases hn), rfl, by simp [σ0, sumL]⟩, fun n hn => (by cases hn)⟩,
    ⟨⟨fun n hn => (by cases hn), by simp [σ0], by simp [σ0], by simp [σ0], by simp [σ0], fun n hn => (by cases hn), fun n hn => (by cases hn), by simp [σ0], by simp [σ0], fun n hn => (by cases hn)⟩, ⟨fun p hp => (by cases hp), fun n hn => (by cases hn), fun n hn => (by cases hn)⟩, by simp [σ0], fun p hp => ?_, by simp [σ0]⟩, fun p hp => (by cases hp), Int.le_refl _, by simp [σ0]⟩
  cases p with
  | vars => simp [σ0, St.at]
  | cell n => cases hp
theorem sp_counted {l : List V} (q : ∀ H', Rep σ0 H' → Lk (H0.set (.loc 0) (.list l)) H' → Q (.obj .root) H') : callP tab (k + 1) "Counted" [.int 1000] Q (H0.set (.loc 0) (.list l)) := by
  refine c_cls (i := .root) rfl rfl rfl ?_
  rw [b_Counted_init]
  refine s_attr (i_dict ⟨.cellsD, rfl, i_var rfl ⟨_, rfl, ?_⟩⟩)
  refine s_attr (i_dict ⟨.varsD, rfl, i_var rfl ⟨_, rfl, ?_⟩⟩)
  refine s_attr (i_list (i_nil ⟨.logL, rfl, i_var rfl ⟨_, rfl, ?_⟩⟩))
  refine s_attr (i_int (i_var rfl ⟨_, rfl, ?_⟩))
  refine s_attr (i_list (i_nil ⟨.buf 0, rfl, i_var rfl ⟨_, rfl, ?_⟩⟩))
  refine s_attr (i_var rfl (i_var rfl ⟨_, rfl, ?_⟩))
  refine s_attr (i_int (i_var rfl ⟨_, rfl, ?_⟩))
  refine s_attr (i_dict ⟨.planD, rfl, i_var rfl ⟨_, rfl, ?_⟩⟩)
  refine s_attr (i_list (i_nil ⟨.tablesL, rfl, i_var rfl ⟨_, rfl, s_nil (in_next ?_)⟩⟩))
  refine q _ ⟨rfl, rfl, rfl, rfl, rfl, rfl, rfl, fun k hk => ?_, fun n hn => (by cases hn), fun n hn => (by cases hn), fun n hn => (by cases hn), fun n hn => ⟨rfl, rfl, rfl⟩, 1, fun k hk => ?_⟩ fun k o e => ?_
  · have hk' : 0 < k := hk
    have : k ≠ 0 := by lia
    simp [Hp.set_apply, H0, this]
  · have : k ≠ 0 := by lia
    simp [Hp.set_apply, H0, this]
  · by_cases z : k = 0
    · subst z; simpa [Hp.set_apply] using e
    · simp [Hp.set_apply, H0, z] at e
end
end Mine
end
noncomputable section
namespace Mine
open PySem PySem.W PyProof.Rows
section
variable {σ : St} {H : Hp} {k b i : Nat} {Q : V → Hp → Prop}
noncomputable def isFree : V → Bool
  | .tup (.str s :: _) => s == "free"
  | _ => false
noncomputable def snd1 : V → V
  | .tup (_ :: v :: _) => v
  | v => v
theorem frees_V (l : List LogE) : ((l.map LogE.toV).filter isFree).map snd1 = (frees l).map V.int := by
  induction l with
  | nil => rfl
  | cons e r ih =>
    rw [List.map_cons, List.filter_cons]
    have hc : frees (e :: r) = frees [e] ++ frees r := frees_app [e] r
    cases e with
    | copy a b =>
      have h1 : isFree (LogE.copy a b).toV = false := by simp [LogE.toV, isFree]
      rw [h1, hc]; simpa [frees] using ih
    | free a =>
      have h1 : isFree (LogE.free a).toV = true := by simp [LogE.toV, isFree]
      rw [h1, hc, if_pos rfl, List.map_cons, List.map_append, ← ih]; rfl
    | destruct a =>
      have h1 : isFree (LogE.destruct a).toV = false := by simp [LogE.toV, isFree]
      rw [h1, hc]; simpa [frees] using ih
theorem zip_items {l : List Int} {j : Nat} {it : V} (h : ((l.map V.int).zipIdx.map fun p => V.tup [.int p.2, p.1])[j]? = some it) : ∃ a, it = .tup [.int j, .int a] := by
  rw [List.getElem?_map, List.getElem?_zipIdx, List.getElem?_map] at h
  cases e : l[j]? with
  | none => rw [e] at h; simp at h
  | some a =>
    rw [e] at h
    simp at h
    exact ⟨a, h.symm⟩
theorem no_live (h : σ.vars = []) {n : Int} : ¬ Live σ n := fun hl => by
  unfold Live at hl
  induction hl with
  | root h2 =>
    obtain ⟨p, hp, _⟩ := vr_iff.mp h2
    rw [h] at hp; cases hp
  | step _ _ _ ih => exact ih
theorem unset_vars (a : Int) : ∀ p ∈ (change σ (.unset a)).1.vars, p ∈ σ.vars ∧ p.1 ≠ a := fun p hp => by
  simp only [change] at hp
  cases hl : σ.vars.lookup a with
  | none =>
    rw [hl] at hp
    have hp' : p ∈ σ.vars := hp
    refine ⟨hp', fun e => ?_⟩
    have := (lk_some (es := σ.vars) (k := a)).mpr (List.mem_map.mpr ⟨p, hp', e⟩)
    rw [hl] at this; simp at this
  | some u =>
    rw [hl] at hp
    have hp' : p ∈ delA σ.vars a := hp
    exact ⟨delA_mem hp', by simpa using (List.mem_filter.mp hp').2⟩
theorem law_ok : LawOk := by
  intro ns hns
  show wpSs (callP tab 30) b_law.tail _ _ _
  unfold b_law
  rw [List.tail_cons]
  obtain ⟨QS, hQS⟩ : ∃ QS : PostS, QS = fun fl _ _ => fl = .ret (.bool true) := ⟨_, rfl⟩
  rw [← hQS]
  walk_at "mw"
  refine sp_counted (k := 29) fun H1 R1 L1 => ?_
  have hS1 : H1 (.loc 0) = some (.list (ns.map V.int)) := L1 0 _ (Hp.set_self _ _ _)
  walk_at "mw"
  refine sp_law_told (k := 29) R1 fun TN H2 R2 L2 hTN e2 => ?_
  have hS2 := L2 0 _ hS1
  obtain ⟨I, hI0⟩ : ∃ I : Nat → Env → Hp → Prop, I = fun j ρ' H' => ρ' "heap" = some (.obj .root) ∧ ρ' "script" = some (.obj (.loc 0)) ∧ j ≤ 16 ∧ ∃ σ, K σ (5 + 4 * j) (2 * j) [] [] ∧ Rep σ H' ∧ Lk H2 H' := ⟨_, rfl⟩
  refine for_i (items := (told.map V.int).zipIdx.map fun p => V.tup [.int p.2, p.1]) (keep := some (.loc TN)) I (srcE e2) (by rw [hI0]; exact ⟨rfl, rfl, by lia, σ0, k0, R2, Lk.refl _⟩) ?_ ?_ ?_
  · intro j ρ' H' h
    rw [hI0] at h
    obtain ⟨_, _, _, _, _, _, L⟩ := h
    show H' (.loc TN) = H2 (.loc TN)
    rw [e2]; exact L TN _ e2
  · intro j ρ' H3 it hit h
    rw [hI0] at h
    obtain ⟨g1, g2, hj, σ, hK, R3, L3⟩ := h
    have hj16 : j < 16 := by
      have := (List.getElem?_eq_some_iff.mp hit).1
      simpa [told] using this
    obtain ⟨a, rfl⟩ := zip_items hit
    obtain ⟨ρ1, hρ1⟩ : ∃ ρ1, ρ1 = (ρ'.upd "k" (.int j)).upd "told_one" (.int a) := ⟨_, rfl⟩
    refine ⟨ρ1, by rw [hρ1]; rfl, ?_⟩
    have v1 : ρ1 "heap" = some (.obj .root) := by rw [hρ1]; exact g1
    have v2 : ρ1 "script" = some (.obj (.loc 0)) := by rw [hρ1]; exact g2
    have v3 : ρ1 "k" = some (.int j) := by rw [hρ1]; rfl
    have v4 : ρ1 "told_one" = some (.int a) := by rw [hρ1]; rfl
    clear hρ1
    have hS3 := L3 0 _ hS2
    refine s_assign (i_bin (i_var v4 (i_ite (i_cmp (i_var v3 (i_blt (i_var v2 (w_len hS3 ?_)))))))) 
    rw [List.length_map]
    have xcont : ∀ x : Int, wpSs (callP tab 30) [.expr (.call "do_deed" [(.var "heap"), (.call "_law_deed" [(.var "x")])]),
        .ifs (.bor [(.not (.call "counts_right" [(.var "heap")])), (.band [(.cmp .eq (.bin .mod (.bin .fdiv (.var "x") (.int 1000)) (.int 6)) (.int 5)), (.not (.call "_law_collected" [(.var "heap")]))])]) [
          .ret (.bool false)] []] (ρ1.upd "x" (.int x)) (turnQ I j QS) H3 := by
      intro x
      obtain ⟨ρ2, hρ2⟩ : ∃ ρ2, ρ2 = ρ1.upd "x" (.int x) := ⟨_, rfl⟩
      rw [← hρ2]
      have u1 : ρ2 "heap" = some (.obj .root) := by rw [hρ2]; exact v1
      have u2 : ρ2 "script" = some (.obj (.loc 0)) := by rw [hρ2]; exact v2
      have u3 : ρ2 "x" = some (.int x) := by rw [hρ2]; rfl
      clear hρ2
      walk_at "mw"
      refine sp_law_deed (k := 29) R3 fun d H4 hd R4 L4 => ?_
      obtain ⟨m, σe, run, hKe, _⟩ := deed_ok hK (by lia) (by lia) hd
      have hKe' : K σe (5 + 4 * (j + 1)) (2 * (j + 1)) [] [] := hKe.mono (by lia) (by lia)
      have hI := hKe'.inv (by lia) (by lia)
      walk_at "mw"
      refine sp_do_deed_run (k := 21) R4 run fun H5 R5 L5 => ?_
      walk_at "mw"
      refine sp_counts_right (k := 28) R5 hI.G.W hI.G.C hI.J.bal fun H6 R6 L6 => ?_
      have L26 := L3.trans (L4.trans (L5.trans L6))
      walk_at "mw"
      refine b_fdivi (by decide) (by decide) ?_
      walk_at "mw"
      refine b_modi (by decide) ?_
      walk_at "mw"
      refine ⟨_, _, dat_int 8 _ _, dat_int 8 _ _, ?_⟩
      cases hb : D.beq (.int ((x.fdiv 1000).fmod 6)) (.int 5) with
      | true =>
        walk_at "mw"
        refine sp_law_collected (k := 18) R6 hI fun σ' H7 col I' hbuf R7 L7 => ?_
        walk_at "mw"
        rw [hI0]
        exact ⟨u1, u2, by lia, σ', I'.k hKe' col, R7, L26.trans L7⟩
      | false =>
        walk_at "mw"
        rw [hI0]
        exact ⟨u1, u2, by lia, σe, hKe', R6, L26⟩
    by_cases hlt : (j : Int) < (ns.length : Int)
    · refine k_lt (t := true) (by simpa using hlt) (t_t rfl ?_)
      have hjn : j < ns.length := by lia
      refine i_idx (i_var v2 (i_var v3 ⟨.int ns[j], ?_, ?_⟩))
      · simp only [idxOf, hS3, numI, objI, atI]
        rw [if_pos (by lia), Int.toNat_natCast, List.getElem?_map, List.getElem?_eq_getElem hjn]; rfl
      · exact b_addi (xcont _)
    · exact k_lt (t := false) (by simpa using hlt) (t_f rfl (i_int (b_addi (xcont _))))
  intro ρ3 H3 h
  rw [hI0] at h
  obtain ⟨g1, g2, hj, σ, hK, R3, L3⟩ := h
  have hlen16 : ((told.map V.int).zipIdx.map fun p => V.tup [.int p.2, p.1]).length = 16 := by simp [told]
  rw [hlen16] at hK
  have hI := hK.inv (by lia) (by lia)
  walk_at "mw"
  refine sp_law_collected (k := 18) R3 hI fun σ4 H4 col4 I4 hbuf4 R4 L4 => ?_
  have hK4 := I4.k hK col4
  have hlog := I4.log
  walk_at "mw"
  refine comp_pure isFree snd1 (items := σ4.log.map LogE.toV) (keep := some .logL) ?_ ?_ ?_ ?_
  · exact srcL R4.log
  · intro it hit Q' q'
    obtain ⟨e, he, rfl⟩ := List.mem_map.mp hit
    cases e with
    | copy a b => exact i_c (i_cmp (i_idx (i_var rfl (i_int ⟨_, idx0, i_str (k_eqs (t := false) (by decide) (t_f rfl q'))⟩))))
    | free a => exact i_c (i_cmp (i_idx (i_var rfl (i_int ⟨_, idx0, i_str (k_eqs (t := true) (by decide) (t_t rfl (i_c0 q')))⟩))))
    | destruct a => exact i_c (i_cmp (i_idx (i_var rfl (i_int ⟨_, idx0, i_str (k_eqs (t := false) (by decide) (t_f rfl q'))⟩))))
  · intro it hit h Q' q'
    obtain ⟨e, he, rfl⟩ := List.mem_map.mp hit
    cases e with
    | copy a b => exact i_idx (i_var rfl (i_int ⟨_, idx1, q'⟩))
    | free a => exact i_idx (i_var rfl (i_int ⟨_, idx1, q'⟩))
    | destruct a => exact i_idx (i_var rfl (i_int ⟨_, idx1, q'⟩))
  rw [frees_V]
  refine new_loc R4 _ fun FN H5 R5 L5 _ e5 => ?_
  have e5' : H5 (.loc FN) = some (.list ((frees σ4.log).map V.int)) := by rw [e5, Hp.set_self]
  clear e5
  have hfl : (frees σ4.log).length ≤ 1000 := Nat.le_trans (List.length_filterMap_le _ _) (by lia)
  have g1' : (ρ3.upd "freed" (.obj (.loc FN))) "heap" = some (.obj .root) := g1
  generalize hρ4 : ρ3.upd "freed" (.obj (.loc FN)) = ρ4 at g1' ⊢
  have g3 : ρ4 "freed" = some (.obj (.loc FN)) := by rw [← hρ4]; rfl
  clear hρ4
  walk_at "mw"
  refine w_len e5' ?_
  rw [List.length_map]
  walk_at "mw"
  refine w_lenSet e5' (intsOf_ints _) I4.J.lg.nd hfl ?_
  refine ne_same (dat_int 8 _ _) (dat_int 8 _ _) ?_
  walk_at "mw"
  refine w_len e5' ?_
  rw [List.length_map, I4.J.lg.freed]
  refine ne_same (dat_int 8 _ _) (dat_int 8 _ _) ?_
  walk_at "mw"
  obtain ⟨I2, hI2⟩ : ∃ I : Nat → Env → Hp → Prop, I = fun j ρ' H' => ρ' "heap" = some (.obj .root) ∧ j ≤ 5 ∧ ∃ σ, K σ (69 + 4 * j) (32 + 2 * j) [] [] ∧ (∀ p ∈ σ.vars, (j : Int) ≤ p.1) ∧ Rep σ H' := ⟨_, rfl⟩
  refine for_i (items := (List.range 5).map fun (j : Nat) => V.int (j : Int)) (keep := none) I2 rfl (by rw [hI2]; exact ⟨g1', by lia, σ4, hK4.mono (by lia) (by lia), fun p hp => (hK4.vk p hp).1, R5⟩) ?_ ?_ ?_
  · intro j ρ' H' _; trivial
  · intro j ρ' H6 it hit h
    rw [hI2] at h
    obtain ⟨g1, hj, σ, hK, hv, R6⟩ := h
    have hj5 : j < 5 := by
      have := (List.getElem?_eq_some_iff.mp hit).1
      simpa using this
    have hit' : it = .int j := by
      rw [List.getElem?_map, List.getElem?_range hj5] at hit
      simpa using hit.symm
    subst hit'
    refine ⟨_, rfl, ?_⟩
    walk_at "mw"
    obtain ⟨m, σe, run, hKe, hve⟩ := deed_ok hK (by lia) (by lia) (d := .unset j) (by constructor <;> lia)
    refine sp_do_deed_run (k := 21) R6 run fun H7 R7 L7 => ?_
    walk_at "mw"
    rw [hI2]
    refine ⟨g1, by lia, σe, hKe.mono (by lia) (by lia), fun p hp => ?_, R7⟩
    rw [hve] at hp
    obtain ⟨h1, h2⟩ := unset_vars (j : Int) p hp
    have := hv p h1
    have : p.1 ≠ (j : Int) := h2
    lia
  intro ρ6 H6 h
  rw [hI2] at h
  obtain ⟨g1, hj, σ, hK, hv, R6⟩ := h
  rw [List.length_map, List.length_range] at hK hv
  have hI6 := hK.inv (by lia) (by lia)
  have hv0 : σ.vars = [] := List.eq_nil_iff_forall_not_mem.mpr fun p hp => by
    have h1 := hv p hp
    have h2 := hK.vk p hp
    lia
  walk_at "mw"
  refine sp_law_collected (k := 18) R6 hI6 fun σ7 H7 col7 I7 hbuf7 R7 L7 => ?_
  have hk7 : σ7.keys = [] := by
    rw [col7.keys]
    exact List.filter_eq_nil_iff.mpr fun n hn e => no_live hv0 (liveB_iff.mp e)
  have hv7 : σ7.vars = [] := col7.vars.trans hv0
  walk_at "mw"
  refine w_empty (b := true) R7.cells (by rw [hk7]; rfl) ?_
  walk_at "mw"
  refine w_empty (b := true) R7.vars (by rw [hv7]; rfl) ?_
  rw [hQS]
end
theorem all_ok : PySem.Challenge.rw_pf0211_01.Holds := final law_ok
end Mine
end

theorem PySem.Challenge.cw_pf0211_01_holds : PySem.Challenge.rw_pf0211_01.Holds :=
  Mine.all_ok
