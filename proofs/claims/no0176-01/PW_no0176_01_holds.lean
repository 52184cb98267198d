import PyProof.Rows.All
import Wide.All
import OpenK.AllK
import Wide.FinOn
import PySem.Challenge.RW_no0176_01
namespace Mine
set_option autoImplicit false
set_option linter.all false
set_option compiler.extract_closed false
set_option hygiene false
set_option tactic.hygienic false
set_option genInjectivity false
set_option genSizeOf false
set_option bootstrap.genMatcherCode false
set_option backward.match.sparseCases false
open PySem.W
section
open PySem
set_option genInjectivity true in
inductive Dt where
  | none
  | bool (b : Bool)
  | int (i : Int)
  | str (x : Str)
  | tup (ds : List Dt)
inductive AV where
  | d (x : Dt)
  | r (a : Addr)
  | f (is : List Int)
inductive Cl where
  | sym | store | pairs
inductive AO where
  | lst (ds : List Dt)
  | di (es : List (Int × Dt))
  | ds (es : List (Str × Int))
  | dt (es : List (List Int × Int))
  | set (is : List Int)
  | inst (c : Cl) (dx : Addr)
  | ns (fs : List (Str × AV))
noncomputable abbrev AH := Addr → Option AO
noncomputable def AH.set (H : AH) (a : Addr) (o : AO) : AH := fun b => if b = a then some o else H b
noncomputable abbrev Frm := Str → Option AV
noncomputable def Frm.put (f : Frm) (x : Str) (v : AV) : Frm := fun y => if y = x then some v else f y
noncomputable def Frm.only (caps : List Str) (f : Frm) : Frm := fun x => if x ∈ caps then f x else Option.none
inductive Fk where
  | fn (f : Str)
  | me (c : Cl) (m : Str)
inductive Tg where
  | one (x : Str)
  | many (xs : List Str)
inductive IE where
  | loc (x : Str)
  | con (d : Dt)
  | tup (es : List IE)
  | lst (es : List IE)
  | dct
  | neg (a : IE)
  | bin (op : Operator) (a b : IE)
  | cmp (op : CmpOp) (a b : IE)
  | chn (a : IE) (o1 : CmpOp) (b : IE) (o2 : CmpOp) (c : IE)
  | andE (a b : IE)
  | orE (a b : IE)
  | notE (a : IE)
  | ite (t a b : IE)
  | sub (a i : IE)
  | slcH (a hi : IE)
  | slcL (a lo : IE)
  | att (a : IE) (x : Str)
  | fn (f : Str) (es : List IE)
  | new (c : Cl) (es : List IE)
  | met (cl : Cl) (o : IE) (m : Str) (es : List IE)
  | mb (o : IE) (m : Str) (es : List IE)
  | len (a : IE)
  | tupl (a : IE)
  | listc (a : IE)
  | isbool (a : IE)
  | newset
  | lcR (elt : IE) (x : Str) (n : IE) (caps : List Str)
  | lcE (elt : IE) (tg : Tg) (src : IE) (caps : List Str)
  | bad
inductive IS where
  | asg (tg : Tg) (e : IE)
  | satt (o : IE) (x : Str) (e : IE)
  | ssub (o i e : IE)
  | aug (x : Str) (op : Operator) (e : IE)
  | del (o lo : IE)
  | exp (e : IE)
  | extZ (o a b : IE)
  | ret (e : IE)
  | retN
  | brk | cnt | pas
  | ife (t : IE) (a b : List IS)
  | whl (t : IE) (b : List IS)
  | forE (tg : Tg) (src : IE) (b : List IS)
  | forR (x : Str) (es : List IE) (b : List IS)
  | bad
inductive Fl where
  | next | brk | cont
  | ret (v : AV)
noncomputable def lim : Nat := 1000000
mutual
noncomputable def Dt.plain : Dt → Bool
  | .none => true
  | .bool _ => false
  | .int _ => true
  | .str x => PyData.strOk x
  | .tup ds => Dt.plains ds
noncomputable def Dt.plains : List Dt → Bool
  | [] => true
  | d :: ds => Dt.plain d && Dt.plains ds
end
mutual
noncomputable def Dt.depth : Dt → Nat
  | .none => 0
  | .bool _ => 0
  | .int _ => 0
  | .str _ => 0
  | .tup ds => Dt.depths ds + 1
noncomputable def Dt.depths : List Dt → Nat
  | [] => 0
  | d :: ds => max (Dt.depth d) (Dt.depths ds)
end
structure Dt.ok (x : Dt) : Prop where
  plain : x.plain = true
  depth : x.depth ≤ 2000
structure Dt.oks (xs : List Dt) : Prop where
  plain : Dt.plains xs = true
  depth : Dt.depths xs ≤ 2000
noncomputable def lookK {K V : Type} [DecidableEq K] (k : K) : List (K × V) → Option V
  | [] => Option.none
  | e :: r => if e.1 = k then some e.2 else lookK k r
noncomputable def putK {K V : Type} [DecidableEq K] (k : K) (v : V) : List (K × V) → List (K × V)
  | [] => [(k, v)]
  | e :: r => if e.1 = k then (e.1, v) :: r else e :: putK k v r
noncomputable def lookF (x : Str) : List (Str × AV) → Option AV
  | [] => Option.none
  | e :: r => if e.1 = x then some e.2 else lookF x r
noncomputable def putF (x : Str) (v : AV) : List (Str × AV) → List (Str × AV)
  | [] => [(x, v)]
  | e :: r => if e.1 = x then (e.1, v) :: r else e :: putF x v r
inductive BinV : Operator → Dt → Dt → Dt → Prop
  | add {a b : Int} : BinV .Add (.int a) (.int b) (.int (a + b))
  | sub {a b : Int} : BinV .Sub (.int a) (.int b) (.int (a - b))
  | mul {a b : Int} (h : b.natAbs < 1000000000000) : BinV .Mult (.int a) (.int b) (.int (a * b))
  | div {a b : Int} (h : 0 < b) (h2 : b < 1000000) : BinV .FloorDiv (.int a) (.int b) (.int (a / b))
  | mod {a b : Int} (h : 0 < b) (h2 : b < 1000000) : BinV .Mod (.int a) (.int b) (.int (a % b))
  | pow : BinV .Pow (.int 10) (.int 30) (.int (10 ^ 30))
inductive EqV (H : AH) : AV → AV → Bool → Prop
  | bool {a b : Bool} : EqV H (.d (.bool a)) (.d (.bool b)) (a == b)
  | dt {x y : Dt} {z : Bool} (hx : x.ok) (hy : y.ok) (hz : z = true ↔ x = y) : EqV H (.d x) (.d y) z
  | lst {a b : Addr} {xs ys : List Dt} {z : Bool} (ha : H a = some (.lst xs)) (hb : H b = some (.lst ys)) (ox : Dt.oks xs) (oy : Dt.oks ys) (hz : z = true ↔ xs = ys) : EqV H (.r a) (.r b) z
inductive NoneV : AV → Bool → Prop
  | none : NoneV (.d .none) true
  | tup {ds : List Dt} : NoneV (.d (.tup ds)) false
  | bool {b : Bool} : NoneV (.d (.bool b)) false
  | ref {a : Addr} : NoneV (.r a) false
inductive InV (H : AH) (i : Int) (a : Addr) : Bool → Prop
  | di {es : List (Int × Dt)} (h : H a = some (.di es)) : InV H i a (lookK i es).isSome
  | set {is : List Int} (h : H a = some (.set is)) : InV H i a (is.contains i)
inductive CmpV (H : AH) : CmpOp → AV → AV → Bool → Prop
  | eq {x y : AV} {z : Bool} (h : EqV H x y z) : CmpV H .Eq x y z
  | ne {x y : AV} {z : Bool} (h : EqV H x y z) : CmpV H .NotEq x y (!z)
  | lt {a b : Int} : CmpV H .Lt (.d (.int a)) (.d (.int b)) (decide (a < b))
  | le {a b : Int} : CmpV H .LtE (.d (.int a)) (.d (.int b)) (decide (a ≤ b))
  | gt {a b : Int} : CmpV H .Gt (.d (.int a)) (.d (.int b)) (decide (b < a))
  | ge {a b : Int} : CmpV H .GtE (.d (.int a)) (.d (.int b)) (decide (b ≤ a))
  | is {x : AV} {z : Bool} (h : NoneV x z) : CmpV H .Is x (.d .none) z
  | isn {x : AV} {z : Bool} (h : NoneV x z) : CmpV H .IsNot x (.d .none) (!z)
  | in_ {i : Int} {a : Addr} {z : Bool} (h : InV H i a z) : CmpV H .In (.d (.int i)) (.r a) z
  | nin {i : Int} {a : Addr} {z : Bool} (h : InV H i a z) : CmpV H .NotIn (.d (.int i)) (.r a) (!z)
inductive SubV (H : AH) : AV → AV → Dt → Prop
  | tup {ds : List Dt} {n : Nat} {z : Dt} (h1 : n < 1000000) (h : ds[n]? = some z) : SubV H (.d (.tup ds)) (.d (.int (n : Int))) z
  | lst {a : Addr} {ds : List Dt} {n : Nat} {z : Dt} (e : H a = some (.lst ds)) (h : ds[n]? = some z) : SubV H (.r a) (.d (.int (n : Int))) z
  | di {a : Addr} {es : List (Int × Dt)} {i : Int} {z : Dt} (e : H a = some (.di es)) (h : lookK i es = some z) : SubV H (.r a) (.d (.int i)) z
inductive LstV (H : AH) : AV → List Dt → Prop
  | lst {a : Addr} {ds : List Dt} (e : H a = some (.lst ds)) : LstV H (.r a) ds
  | fro {is : List Int} : LstV H (.f is) (is.map .int)
inductive ItemsV (H : AH) : AV → List Dt → (AH → Prop) → Prop
  | tup {ds : List Dt} : ItemsV H (.d (.tup ds)) ds fun _ => True
  | lst {a : Addr} {ds : List Dt} (e : H a = some (.lst ds)) : ItemsV H (.r a) ds fun H' => H' a = some (.lst ds)
  | fro {is : List Int} : ItemsV H (.f is) (is.map .int) fun _ => True
inductive Puts : List Str → List Dt → Frm → Frm → Prop
  | nil {f : Frm} : Puts [] [] f f
  | cons {x : Str} {d : Dt} {xs : List Str} {ds : List Dt} {f f' : Frm} (h : Puts xs ds (f.put x (.d d)) f') : Puts (x :: xs) (d :: ds) f f'
inductive BindT : Tg → AV → Frm → Frm → Prop
  | one {x : Str} {v : AV} {f : Frm} : BindT (.one x) v f (f.put x v)
  | many {xs : List Str} {ds : List Dt} {f f' : Frm} (h : Puts xs ds f f') : BindT (.many xs) (.d (.tup ds)) f f'
inductive TgOk : Tg → AV → Prop
  | one {x : Str} {v : AV} : TgOk (.one x) v
  | many {xs : List Str} {a : Addr} : TgOk (.many xs) (.r a)
noncomputable abbrev Post := AV → AH → Prop
noncomputable abbrev Oracle := Fk → List AV → AH → Post → Prop
noncomputable abbrev SPost := Fl → Frm → AH → Prop
noncomputable def newO (H : AH) (o : AO) (Q : Post) : Prop := ∀ a, H a = Option.none → Q (.r a) (H.set a o)
noncomputable def Gr (ms : List Addr) (H H' : AH) : Prop := ∀ b o, b ∉ ms → H b = some o → H' b = some o
inductive MbOk : AO → Str → Prop
  | app {ds : List Dt} : MbOk (.lst ds) "append"
  | pop {ds : List Dt} : MbOk (.lst ds) "pop"
  | rev {ds : List Dt} : MbOk (.lst ds) "reverse"
  | ext {ds : List Dt} : MbOk (.lst ds) "extend"
  | getS {es : List (Str × Int)} : MbOk (.ds es) "get"
  | getT {es : List (List Int × Int)} : MbOk (.dt es) "get"
  | add {is : List Int} : MbOk (.set is) "add"
inductive Meth (a : Addr) (Q : Post) : Str → List AV → AH → Prop
  | app {ds : List Dt} {x : Dt} {H : AH} (e : H a = some (.lst ds)) (hl : ds.length < lim) (q : Q (.d .none) (H.set a (.lst (ds ++ [x])))) : Meth a Q "append" [.d x] H
  | ext {ds es : List Dt} {H : AH} (e : H a = some (.lst ds)) (hl : ds.length + es.length < lim) (q : Q (.d .none) (H.set a (.lst (ds ++ es)))) : Meth a Q "extend" [.d (.tup es)] H
  | pop {ds : List Dt} {d : Dt} {H : AH} (e : H a = some (.lst (ds ++ [d]))) (q : Q (.d d) (H.set a (.lst ds))) : Meth a Q "pop" [] H
  | rev {ds : List Dt} {H : AH} (e : H a = some (.lst ds)) (q : Q (.d .none) (H.set a (.lst ds.reverse))) : Meth a Q "reverse" [] H
  | getS {es : List (Str × Int)} {k : Str} {v : Int} {H : AH} (e : H a = some (.ds es)) (q : Q (.d (.int ((lookK k es).getD v))) H) : Meth a Q "get" [.d (.str k), .d (.int v)] H
  | getT {es : List (List Int × Int)} {k j v : Int} {H : AH} (e : H a = some (.dt es)) (q : Q (.d (.int ((lookK [k, j] es).getD v))) H) : Meth a Q "get" [.d (.tup [.int k, .int j]), .d (.int v)] H
  | add {is : List Int} {i : Int} {H : AH} (e : H a = some (.set is)) (hl : is.length < 4000) (q : Q (.d .none) (H.set a (.set (if is.contains i then is else is ++ [i])))) : Meth a Q "add" [.d (.int i)] H
inductive tupQ (Q : Post) (vs : List AV) (H : AH) : Prop
  | mk {ds : List Dt} (h : vs = ds.map .d) (q : Q (.d (.tup ds)) H) : tupQ Q vs H
inductive lstQ (Q : Post) (vs : List AV) (H : AH) : Prop
  | mk {ds : List Dt} (h : vs = ds.map .d) (q : newO H (.lst ds) Q) : lstQ Q vs H
inductive negQ (Q : Post) : Post
  | mk {i : Int} {H : AH} (q : Q (.d (.int (-i))) H) : negQ Q (.d (.int i)) H
inductive binQ (op : Operator) : AV → Post → Post
  | mk {x y z : Dt} {Q : Post} {H : AH} (h : BinV op x y z) (q : Q (.d z) H) : binQ op (.d x) Q (.d y) H
inductive cmpQ (op : CmpOp) (x : AV) (Q : Post) (y : AV) (H : AH) : Prop
  | mk {z : Bool} (h : CmpV H op x y z) (q : Q (.d (.bool z)) H) : cmpQ op x Q y H
inductive chnQ (op : CmpOp) (x : AV) (P : Post) (F : AH → Prop) (y : AV) (H : AH) : Prop
  | t (h : CmpV H op x y true) (q : P y H) : chnQ op x P F y H
  | f (h : CmpV H op x y false) (q : F H) : chnQ op x P F y H
inductive ifQ (P1 P2 : AH → Prop) : Post
  | t {H : AH} (h : P1 H) : ifQ P1 P2 (.d (.bool true)) H
  | f {H : AH} (h : P2 H) : ifQ P1 P2 (.d (.bool false)) H
inductive notQ (Q : Post) : Post
  | mk {b : Bool} {H : AH} (q : Q (.d (.bool (!b))) H) : notQ Q (.d (.bool b)) H
inductive subQ (x : AV) (Q : Post) (y : AV) (H : AH) : Prop
  | mk {z : Dt} (h : SubV H x y z) (q : Q (.d z) H) : subQ x Q y H
inductive slcHQ (x : AV) (Q : Post) : Post
  | mk {n : Nat} {ds : List Dt} {H : AH} (h : LstV H x ds) (q : newO H (.lst (ds.take n)) Q) : slcHQ x Q (.d (.int (n : Int))) H
inductive slcLQ (x : AV) (Q : Post) : Post
  | mk {n : Nat} {ds : List Dt} {H : AH} (h : LstV H x ds) (q : newO H (.lst (ds.drop n)) Q) : slcLQ x Q (.d (.int (n : Int))) H
inductive attV (H : AH) (x : Str) : AV → AV → Prop
  | mk {a : Addr} {cl : Cl} {dx : Addr} {fs : List (Str × AV)} {z : AV} (h1 : H a = some (.inst cl dx)) (h2 : H dx = some (.ns fs)) (h3 : lookF x fs = some z) : attV H x (.r a) z
inductive attQ (x : Str) (Q : Post) (v : AV) (H : AH) : Prop
  | mk {z : AV} (h : attV H x v z) (q : Q z H) : attQ x Q v H
inductive newQ (x : Addr) (Q : Post) : Post
  | mk {H : AH} (q : Q (.r x) H) : newQ x Q (.d .none) H
noncomputable def newR (C : Oracle) (c : Cl) (Q : Post) : List AV → AH → Prop := fun vs H1 => ∀ x dx H2, H1 x = none → H1 dx = none → H2 x = some (.inst c dx) → H2 dx = some (.ns []) → Gr [] H1 H2 → C (.me c "__init__") (.r x :: vs) H2 (newQ x Q)
inductive metQ (cl : Cl) (m : Str) (P : Addr → AH → Prop) : Post
  | mk {a dx : Addr} {fs : List (Str × AV)} {H : AH} (h1 : H a = some (.inst cl dx)) (h2 : H dx = some (.ns fs)) (h3 : lookF m fs = none) (q : P a H) : metQ cl m P (.r a) H
inductive mbQ (m : Str) (P : Addr → AH → Prop) : Post
  | mk {a : Addr} {o : AO} {H : AH} (e : H a = some o) (h : MbOk o m) (q : P a H) : mbQ m P (.r a) H
inductive lenQ (Q : Post) : Post
  | lst {a : Addr} {ds : List Dt} {H : AH} (e : H a = some (.lst ds)) (q : Q (.d (.int (ds.length : Int))) H) : lenQ Q (.r a) H
  | di {a : Addr} {es : List (Int × Dt)} {H : AH} (e : H a = some (.di es)) (q : Q (.d (.int (es.length : Int))) H) : lenQ Q (.r a) H
inductive tuplQ (Q : Post) (v : AV) (H : AH) : Prop
  | mk {ds : List Dt} (h : LstV H v ds) (q : Q (.d (.tup ds)) H) : tuplQ Q v H
inductive listcQ (Q : Post) : Post
  | lst {a : Addr} {ds : List Dt} {H : AH} (e : H a = some (.lst ds)) (q : newO H (.lst ds) Q) : listcQ Q (.r a) H
  | di {a : Addr} {es : List (Int × Dt)} {H : AH} (e : H a = some (.di es)) (q : newO H (.lst (es.map fun e => .int e.1)) Q) : listcQ Q (.r a) H
inductive isbQ (Q : Post) : Post
  | mk {b : Bool} {H : AH} (q : Q (.d (.bool true)) H) : isbQ Q (.d (.bool b)) H
inductive itemsQ (P : AV → List Dt → (AH → Prop) → AH → Prop) (v : AV) (H : AH) : Prop
  | mk {ds : List Dt} {chk : AH → Prop} (h : ItemsV H v ds chk) (q : P v ds chk H) : itemsQ P v H
inductive cntQ (P : Nat → AH → Prop) : Post
  | mk {n : Nat} {H : AH} (hn : n ≤ 1000) (q : P n H) : cntQ P (.d (.int (n : Int))) H
inductive rngQ (P : List AV → AH → Prop) : List AV → AH → Prop
  | up {n : Nat} {H : AH} (hn : n < 1000000) (q : P ((List.range n).map fun (i : Nat) => AV.d (.int (i : Int))) H) : rngQ P [.d (.int (n : Int))] H
  | down {n : Nat} {H : AH} (hn : n < 1000000) (q : P ((List.range n).map fun (i : Nat) => AV.d (.int ((n : Int) - 1 - (i : Int)))) H) : rngQ P [.d (.int ((n : Int) - 1)), .d (.int (-1)), .d (.int (-1))] H
inductive putsQ (xs : List Str) (f : Frm) (P : Frm → AH → Prop) : Post
  | mk {ds : List Dt} {f' : Frm} {H : AH} (h : Puts xs ds f f') (q : P f' H) : putsQ xs f P (.d (.tup ds)) H
inductive setAttr (H : AH) : AV → Str → AV → (AH → Prop) → Prop
  | mk {a dx : Addr} {cl : Cl} {fs : List (Str × AV)} {x : Str} {v : AV} {P : AH → Prop} (h1 : H a = some (.inst cl dx)) (h2 : H dx = some (.ns fs)) (hl : fs.length < 100) (q : P (H.set dx (.ns (putF x v fs)))) : setAttr H (.r a) x v P
inductive setSub (H : AH) : AV → AV → AV → (AH → Prop) → Prop
  | lst {a : Addr} {ds : List Dt} {n : Nat} {x : Dt} {P : AH → Prop} (e : H a = some (.lst ds)) (h : n < ds.length) (q : P (H.set a (.lst (ds.set n x)))) : setSub H (.r a) (.d (.int (n : Int))) (.d x) P
  | di {a : Addr} {es : List (Int × Dt)} {j : Int} {x : Dt} {P : AH → Prop} (e : H a = some (.di es)) (hl : es.length < lim) (q : P (H.set a (.di (putK j x es)))) : setSub H (.r a) (.d (.int j)) (.d x) P
  | ds {a : Addr} {es : List (Str × Int)} {j : Str} {x : Int} {P : AH → Prop} (e : H a = some (.ds es)) (hl : es.length < lim) (q : P (H.set a (.ds (putK j x es)))) : setSub H (.r a) (.d (.str j)) (.d (.int x)) P
  | dt {a : Addr} {es : List (List Int × Int)} {j l x : Int} {P : AH → Prop} (e : H a = some (.dt es)) (hl : es.length < lim) (q : P (H.set a (.dt (putK [j, l] x es)))) : setSub H (.r a) (.d (.tup [.int j, .int l])) (.d (.int x)) P
inductive augQ (x : Str) (f : Frm) (P : Frm → AH → Prop) : AV → Post
  | int {u w : Int} {H : AH} (q : P (f.put x (.d (.int (u + w)))) H) : augQ x f P (.d (.int u)) (.d (.int w)) H
  | lst {a b : Addr} {ds es : List Dt} {H : AH} (h1 : H a = some (.lst ds)) (h2 : H b = some (.lst es)) (hl : ds.length + es.length < lim) (q : P f (H.set a (.lst (ds ++ es)))) : augQ x f P (.r a) (.r b) H
inductive delQ (P : AH → Prop) : AV → Post
  | mk {a : Addr} {ds : List Dt} {n : Nat} {H : AH} (e : H a = some (.lst ds)) (q : P (H.set a (.lst (ds.take n)))) : delQ P (.r a) (.d (.int (n : Int))) H
inductive expQ (P : AH → Prop) : Post
  | none {H : AH} (q : P H) : expQ P (.d .none) H
  | int {i : Int} {H : AH} (q : P H) : expQ P (.d (.int i)) H
inductive refLQ (P : Addr → AH → Prop) : Post
  | mk {a : Addr} {ds : List Dt} {H : AH} (e : H a = some (.lst ds)) (q : P a H) : refLQ P (.r a) H
inductive zipQ (a : Addr) (P : AH → Prop) : AV → Post
  | mk {es gs ds : List Dt} {H : AH} (e : H a = some (.lst ds)) (h1 : ds.length + es.length < lim) (h2 : es.length = gs.length) (h3 : 0 < es.length) (q : P (H.set a (.lst (ds ++ (es.zip gs).map fun p => .tup [p.1, p.2])))) : zipQ a P (.d (.tup es)) (.d (.tup gs)) H
noncomputable def asgP : Tg → Frm → (Frm → AH → Prop) → Post
  | .one x, f, P => fun v H => P (f.put x v) H
  | .many xs, f, P => putsQ xs f P
noncomputable def turnQ (J : Frm → AH → Prop) (Q : SPost) : SPost := fun fl f H => match fl with
  | .next => J f H
  | .brk => Q .next f H
  | .cont => J f H
  | .ret v => Q (.ret v) f H
noncomputable def nextQ (P : Frm → AH → Prop) (Q : SPost) : SPost := fun fl f H => match fl with
  | .next => P f H
  | .brk => Q .brk f H
  | .cont => Q .cont f H
  | .ret v => Q (.ret v) f H
noncomputable abbrev lessI (I : Nat → Frm → AH → Prop) (n : Nat) : Frm → AH → Prop := fun f H => ∃ n', n' < n ∧ I n' f H
inductive ForL (chk : AH → Prop) (B : Frm → AH → SPost → Prop) (tg : Tg) (vs : List AV) (f : Frm) (H : AH) (Q : SPost) : Prop
  | mk (I : Nat → Frm → AH → Prop) (h0 : I 0 f H) (step : ∀ i f H v, vs[i]? = some v → I i f H → chk H ∧ ∃ f', BindT tg v f f' ∧ B f' H (turnQ (I (i + 1)) Q)) (fin : ∀ f H, I vs.length f H → chk H ∧ Q .next f H) : ForL chk B tg vs f H Q
inductive Acc1 (I : Nat → List Dt → AH → Prop) (i : Nat) (acc : List Dt) : Post
  | mk {d : Dt} {H : AH} (hl : acc.length < lim) (h : I (i + 1) (acc ++ [d]) H) : Acc1 I i acc (.d d) H
inductive LcL (chk : AH → Prop) (B : Frm → AH → Post → Prop) (tg : Tg) (f : Frm) (vs : List AV) (H : AH) (Q : List Dt → AH → Prop) : Prop
  | mk (I : Nat → List Dt → AH → Prop) (h0 : I 0 [] H) (step : ∀ i acc H v, vs[i]? = some v → I i acc H → chk H ∧ ∃ f', BindT tg v f f' ∧ B f' H (Acc1 I i acc)) (fin : ∀ acc H, I vs.length acc H → chk H ∧ Q acc H) : LcL chk B tg f vs H Q
inductive WhlL (T : Frm → AH → Post → Prop) (B : Frm → AH → SPost → Prop) (f : Frm) (H : AH) (Q : SPost) : Prop
  | mk (I : Nat → Frm → AH → Prop) (n : Nat) (h0 : I n f H) (step : ∀ n f H, I n f H → T f H (ifQ (fun H' => B f H' (turnQ (lessI I n) Q)) (fun H' => Q .next f H'))) : WhlL T B f H Q
mutual
noncomputable def We (C : Oracle) : IE → Frm → AH → Post → Prop
  | .loc x, f, H, Q => ∃ v, f x = some v ∧ Q v H
  | .con d, _, H, Q => Q (.d d) H
  | .tup es, f, H, Q => Wes C es f H (tupQ Q)
  | .lst es, f, H, Q => Wes C es f H (lstQ Q)
  | .dct, _, H, Q => newO H (.di []) Q ∨ newO H (.ds []) Q ∨ newO H (.dt []) Q
  | .neg a, f, H, Q => We C a f H (negQ Q)
  | .bin op a b, f, H, Q => We C a f H fun x H1 => We C b f H1 (binQ op x Q)
  | .cmp op a b, f, H, Q => We C a f H fun x H1 => We C b f H1 (cmpQ op x Q)
  | .chn a o1 b o2 c, f, H, Q => We C a f H fun x H1 => We C b f H1 (chnQ o1 x (fun y H2 => We C c f H2 (cmpQ o2 y Q)) (Q (.d (.bool false))))
  | .andE a b, f, H, Q => We C a f H (ifQ (fun H1 => We C b f H1 Q) (Q (.d (.bool false))))
  | .orE a b, f, H, Q => We C a f H (ifQ (Q (.d (.bool true))) (fun H1 => We C b f H1 Q))
  | .notE a, f, H, Q => We C a f H (notQ Q)
  | .ite t a b, f, H, Q => We C t f H (ifQ (fun H1 => We C a f H1 Q) (fun H1 => We C b f H1 Q))
  | .sub a i, f, H, Q => We C a f H fun x H1 => We C i f H1 (subQ x Q)
  | .slcH a i, f, H, Q => We C a f H fun x H1 => We C i f H1 (slcHQ x Q)
  | .slcL a i, f, H, Q => We C a f H fun x H1 => We C i f H1 (slcLQ x Q)
  | .att a x, f, H, Q => We C a f H (attQ x Q)
  | .fn g es, f, H, Q => Wes C es f H fun vs H1 => C (.fn g) vs H1 Q
  | .new c es, f, H, Q => Wes C es f H (newR C c Q)
  | .met cl o m es, f, H, Q => We C o f H (metQ cl m fun a H1 => Wes C es f H1 fun vs H2 => C (.me cl m) (.r a :: vs) H2 Q)
  | .mb o m es, f, H, Q => We C o f H (mbQ m fun a H1 => Wes C es f H1 (Meth a Q m))
  | .len a, f, H, Q => We C a f H (lenQ Q)
  | .tupl a, f, H, Q => We C a f H (tuplQ Q)
  | .listc a, f, H, Q => We C a f H (listcQ Q)
  | .isbool a, f, H, Q => We C a f H (isbQ Q)
  | .newset, _, H, Q => newO H (.set []) Q
  | .lcR e x n caps, f, H, Q => We C n f H (cntQ fun n H1 => LcL (fun _ => True) (fun f' H' Q' => We C e f' H' Q') (.one x) (f.only caps) ((List.range n).map fun (i : Nat) => AV.d (.int (i : Int))) H1 fun ds H2 => newO H2 (.lst ds) Q)
  | .lcE e tg s caps, f, H, Q => We C s f H (itemsQ fun v ds chk H1 => TgOk tg v ∧ LcL chk (fun f' H' Q' => We C e f' H' Q') tg (f.only caps) (ds.map .d) H1 fun es H2 => newO H2 (.lst es) Q)
  | .bad, _, _, _ => False
noncomputable def Wes (C : Oracle) : List IE → Frm → AH → (List AV → AH → Prop) → Prop
  | [], _, H, Q => Q [] H
  | e :: es, f, H, Q => We C e f H fun v H1 => Wes C es f H1 fun vs H2 => Q (v :: vs) H2
end
mutual
noncomputable def Wx (C : Oracle) : IS → Frm → AH → SPost → Prop
  | .asg tg e, f, H, Q => We C e f H (asgP tg f (Q .next))
  | .satt o x e, f, H, Q => We C e f H fun v H1 => We C o f H1 fun a H2 => setAttr H2 a x v (Q .next f)
  | .ssub o i e, f, H, Q => We C e f H fun v H1 => We C o f H1 fun a H2 => We C i f H2 fun k H3 => setSub H3 a k v (Q .next f)
  | .aug x op e, f, H, Q => op = .Add ∧ ∃ u, f x = some u ∧ We C e f H (augQ x f (Q .next) u)
  | .del o lo, f, H, Q => We C o f H fun a H1 => We C lo f H1 (delQ (Q .next f) a)
  | .exp e, f, H, Q => We C e f H (expQ (Q .next f))
  | .extZ o a b, f, H, Q => We C o f H (refLQ fun o H1 => We C a f H1 fun u H2 => We C b f H2 (zipQ o (Q .next f) u))
  | .ret e, f, H, Q => We C e f H fun v H1 => Q (.ret v) f H1
  | .retN, f, H, Q => Q (.ret (.d .none)) f H
  | .brk, f, H, Q => Q .brk f H
  | .cnt, f, H, Q => Q .cont f H
  | .pas, f, H, Q => Q .next f H
  | .ife t a b, f, H, Q => We C t f H (ifQ (fun H1 => Wxs C a f H1 Q) (fun H1 => Wxs C b f H1 Q))
  | .whl t b, f, H, Q => WhlL (fun f' H' Q' => We C t f' H' Q') (fun f' H' Q' => Wxs C b f' H' Q') f H Q
  | .forE tg s b, f, H, Q => We C s f H (itemsQ fun _ ds chk H1 => ForL chk (fun f' H' Q' => Wxs C b f' H' Q') tg (ds.map .d) f H1 Q)
  | .forR x es b, f, H, Q => Wes C es f H (rngQ fun vs H1 => ForL (fun _ => True) (fun f' H' Q' => Wxs C b f' H' Q') (.one x) vs f H1 Q)
  | .bad, _, _, _ => False
noncomputable def Wxs (C : Oracle) : List IS → Frm → AH → SPost → Prop
  | [], f, H, Q => Q .next f H
  | s :: r, f, H, Q => Wx C s f H (nextQ (fun f' H' => Wxs C r f' H' Q) Q)
end
noncomputable def frameOf (ps : List Str) (vs : List AV) : Frm := fun x => (ps.zip vs).lookup x
noncomputable def retQ (Q : Post) : SPost := fun fl _ H => match fl with
  | .next => Q (.d .none) H
  | .brk => False
  | .cont => False
  | .ret v => Q v H
noncomputable def ps_fn_fixed_atoms : List Str := []
noncomputable abbrev ir_fn_fixed_atoms : List IS := [
  .ret (.tup [(.con (.str "[]")), (.con (.str ".")), (.con (.str "{}")), (.con (.str "-")), (.con (.str "+")), (.con (.str "*")), (.con (.str "/")), (.con (.str ",")), (.con (.str "|")), (.con (.str ";")), (.con (.str "->")), (.con (.str "\\+")), (.con (.str ":-")), (.con (.str "?-")), (.con (.str "-->")), (.con (.str "!")), (.con (.str "true")), (.con (.str "fail")), (.con (.str "false")), (.con (.str "call")), (.con (.str "=")), (.con (.str "^")), (.con (.str "error")), (.con (.str "")), (.con (.str "end_of_file")), (.con (.str "system")), (.con (.str "$VAR")), (.con (.str "catch")), (.con (.str "throw"))])]
noncomputable def ps_fn_fixed_functors : List Str := []
noncomputable abbrev ir_fn_fixed_functors : List IS := [
  .ret (.tup [(.tup [(.con (.str ".")), (.con (.int 2))]), (.tup [(.con (.str ",")), (.con (.int 2))]), (.tup [(.con (.str ";")), (.con (.int 2))]), (.tup [(.con (.str "->")), (.con (.int 2))]), (.tup [(.con (.str "\\+")), (.con (.int 1))]), (.tup [(.con (.str ":-")), (.con (.int 2))]), (.tup [(.con (.str ":-")), (.con (.int 1))]), (.tup [(.con (.str "?-")), (.con (.int 1))]), (.tup [(.con (.str "-->")), (.con (.int 2))]), (.tup [(.con (.str "{}")), (.con (.int 1))]), (.tup [(.con (.str "=")), (.con (.int 2))]), (.tup [(.con (.str "^")), (.con (.int 2))]), (.tup [(.con (.str "-")), (.con (.int 1))]), (.tup [(.con (.str "-")), (.con (.int 2))]), (.tup [(.con (.str "+")), (.con (.int 2))]), (.tup [(.con (.str "/")), (.con (.int 2))]), (.tup [(.con (.str "error")), (.con (.int 2))]), (.tup [(.con (.str "$VAR")), (.con (.int 1))]), (.tup [(.con (.str "catch")), (.con (.int 3))]), (.tup [(.con (.str "throw")), (.con (.int 1))]), (.tup [(.con (.str "!")), (.con (.int 0))]), (.tup [(.con (.str "true")), (.con (.int 0))]), (.tup [(.con (.str "fail")), (.con (.int 0))]), (.tup [(.con (.str "false")), (.con (.int 0))]), (.tup [(.con (.str "call")), (.con (.int 1))]), (.tup [(.con (.str "call")), (.con (.int 2))]), (.tup [(.con (.str "call")), (.con (.int 3))]), (.tup [(.con (.str "call")), (.con (.int 4))]), (.tup [(.con (.str "call")), (.con (.int 5))]), (.tup [(.con (.str "call")), (.con (.int 6))]), (.tup [(.con (.str "call")), (.con (.int 7))]), (.tup [(.con (.str "call")), (.con (.int 8))])])]
noncomputable def ps_sym_init : List Str := ["self"]
noncomputable abbrev ir_sym_init : List IS := [
  .satt (.loc "self") "texts" (.lst []),
  .satt (.loc "self") "atom_numbers" .dct,
  .satt (.loc "self") "functors" (.lst []),
  .satt (.loc "self") "functor_numbers" .dct,
  .forE (.one "text") (.fn "fixed_atoms" []) [
    .exp (.met .sym (.loc "self") "atom" [(.loc "text")])],
  .forE (.one "row") (.fn "fixed_functors" []) [
    .exp (.met .sym (.loc "self") "func" [(.sub (.loc "row") (.con (.int 0))), (.sub (.loc "row") (.con (.int 1)))])]]
noncomputable def ps_sym_atom : List Str := ["self", "text"]
noncomputable abbrev ir_sym_atom : List IS := [
  .asg (.one "found") (.mb (.att (.loc "self") "atom_numbers") "get" [(.loc "text"), (.neg (.con (.int 1)))]),
  .ife (.cmp .GtE (.loc "found") (.con (.int 0))) [
    .ret (.loc "found")] [],
  .asg (.one "number") (.len (.att (.loc "self") "texts")),
  .exp (.mb (.att (.loc "self") "texts") "append" [(.loc "text")]),
  .ssub (.att (.loc "self") "atom_numbers") (.loc "text") (.loc "number"),
  .ret (.loc "number")]
noncomputable def ps_sym_functor : List Str := ["self", "atom", "arity"]
noncomputable abbrev ir_sym_functor : List IS := [
  .asg (.one "key") (.tup [(.loc "atom"), (.loc "arity")]),
  .asg (.one "found") (.mb (.att (.loc "self") "functor_numbers") "get" [(.loc "key"), (.neg (.con (.int 1)))]),
  .ife (.cmp .GtE (.loc "found") (.con (.int 0))) [
    .ret (.loc "found")] [],
  .asg (.one "number") (.len (.att (.loc "self") "functors")),
  .exp (.mb (.att (.loc "self") "functors") "append" [(.loc "key")]),
  .ssub (.att (.loc "self") "functor_numbers") (.loc "key") (.loc "number"),
  .ret (.loc "number")]
noncomputable def ps_sym_func : List Str := ["self", "text", "arity"]
noncomputable abbrev ir_sym_func : List IS := [
  .ret (.met .sym (.loc "self") "functor" [(.met .sym (.loc "self") "atom" [(.loc "text")]), (.loc "arity")])]
noncomputable def ps_sym_name : List Str := ["self", "functor"]
noncomputable abbrev ir_sym_name : List IS := [
  .ret (.sub (.sub (.att (.loc "self") "functors") (.loc "functor")) (.con (.int 0)))]
noncomputable def ps_sym_arity : List Str := ["self", "functor"]
noncomputable abbrev ir_sym_arity : List IS := [
  .ret (.sub (.sub (.att (.loc "self") "functors") (.loc "functor")) (.con (.int 1)))]
noncomputable def ps_store_init : List Str := ["self", "symbols", "max_heap"]
noncomputable abbrev ir_store_init : List IS := [
  .satt (.loc "self") "symbols" (.loc "symbols"),
  .satt (.loc "self") "max_heap" (.loc "max_heap"),
  .satt (.loc "self") "heap" (.lst []),
  .satt (.loc "self") "stack" (.lst []),
  .satt (.loc "self") "trail" (.lst []),
  .satt (.loc "self") "hb" (.con (.int 0)),
  .satt (.loc "self") "bb" (.con (.int 0))]
noncomputable def ps_store_push : List Str := ["self", "cell"]
noncomputable abbrev ir_store_push : List IS := [
  .asg (.one "address") (.len (.att (.loc "self") "heap")),
  .ife (.cmp .GtE (.loc "address") (.att (.loc "self") "max_heap")) [
    .bad] [],
  .exp (.mb (.att (.loc "self") "heap") "append" [(.loc "cell")]),
  .ret (.loc "address")]
noncomputable def ps_store_new_var : List Str := ["self"]
noncomputable abbrev ir_store_new_var : List IS := [
  .asg (.one "cell") (.tup [(.con (.int 0)), (.len (.att (.loc "self") "heap"))]),
  .exp (.met .store (.loc "self") "push" [(.loc "cell")]),
  .ret (.loc "cell")]
noncomputable def ps_store_reserve : List Str := ["self", "count"]
noncomputable abbrev ir_store_reserve : List IS := [
  .asg (.one "first") (.len (.att (.loc "self") "heap")),
  .ife (.cmp .Gt (.bin .Add (.loc "first") (.loc "count")) (.att (.loc "self") "max_heap")) [
    .bad] [],
  .forR "step" [(.loc "count")] [
    .exp (.mb (.att (.loc "self") "heap") "append" [(.tup [(.con (.int 0)), (.bin .Add (.loc "first") (.loc "step"))])])],
  .ret (.loc "first")]
noncomputable def ps_store_trim : List Str := ["self", "h"]
noncomputable abbrev ir_store_trim : List IS := [
  .del (.att (.loc "self") "heap") (.loc "h")]
noncomputable def ps_store_deref : List Str := ["self", "cell"]
noncomputable abbrev ir_store_deref : List IS := [
  .whl (.con (.bool true)) [
    .asg (.one "tag") (.sub (.loc "cell") (.con (.int 0))),
    .ife (.cmp .Eq (.loc "tag") (.con (.int 0))) [
      .asg (.one "found") (.sub (.att (.loc "self") "heap") (.sub (.loc "cell") (.con (.int 1))))] [
      .ife (.cmp .Eq (.loc "tag") (.con (.int 1))) [
        .asg (.one "found") (.sub (.att (.loc "self") "stack") (.sub (.loc "cell") (.con (.int 1))))] [
        .ret (.loc "cell")]],
    .ife (.cmp .Eq (.loc "found") (.loc "cell")) [
      .ret (.loc "cell")] [],
    .asg (.one "cell") (.loc "found")]]
noncomputable def ps_store_bind : List Str := ["self", "cell", "value"]
noncomputable abbrev ir_store_bind : List IS := [
  .asg (.one "place") (.sub (.loc "cell") (.con (.int 1))),
  .ife (.cmp .Eq (.sub (.loc "cell") (.con (.int 0))) (.con (.int 0))) [
    .ssub (.att (.loc "self") "heap") (.loc "place") (.loc "value"),
    .ife (.cmp .Lt (.loc "place") (.att (.loc "self") "hb")) [
      .exp (.mb (.att (.loc "self") "trail") "append" [(.loc "place")])] []] [
    .ssub (.att (.loc "self") "stack") (.loc "place") (.loc "value"),
    .ife (.cmp .Lt (.loc "place") (.att (.loc "self") "bb")) [
      .exp (.mb (.att (.loc "self") "trail") "append" [(.bin .Sub (.neg (.con (.int 1))) (.loc "place"))])] []]]
noncomputable def ps_store_bind_pair : List Str := ["self", "c1", "c2"]
noncomputable abbrev ir_store_bind_pair : List IS := [
  .ife (.cmp .Eq (.loc "c1") (.loc "c2")) [
    .retN] [],
  .ife (.cmp .Eq (.sub (.loc "c1") (.con (.int 0))) (.sub (.loc "c2") (.con (.int 0)))) [
    .ife (.cmp .Lt (.sub (.loc "c1") (.con (.int 1))) (.sub (.loc "c2") (.con (.int 1)))) [
      .exp (.met .store (.loc "self") "bind" [(.loc "c2"), (.loc "c1")])] [
      .exp (.met .store (.loc "self") "bind" [(.loc "c1"), (.loc "c2")])]] [
    .ife (.cmp .Eq (.sub (.loc "c1") (.con (.int 0))) (.con (.int 1))) [
      .exp (.met .store (.loc "self") "bind" [(.loc "c1"), (.loc "c2")])] [
      .exp (.met .store (.loc "self") "bind" [(.loc "c2"), (.loc "c1")])]]]
noncomputable def ps_store_globalise : List Str := ["self", "cell"]
noncomputable abbrev ir_store_globalise : List IS := [
  .asg (.one "cell") (.met .store (.loc "self") "deref" [(.loc "cell")]),
  .ife (.cmp .Eq (.sub (.loc "cell") (.con (.int 0))) (.con (.int 1))) [
    .asg (.one "fresh") (.met .store (.loc "self") "new_var" []),
    .exp (.met .store (.loc "self") "bind" [(.loc "cell"), (.loc "fresh")]),
    .ret (.loc "fresh")] [],
  .ret (.loc "cell")]
noncomputable def ps_store_mark : List Str := ["self"]
noncomputable abbrev ir_store_mark : List IS := [
  .ret (.len (.att (.loc "self") "trail"))]
noncomputable def ps_store_undo_to : List Str := ["self", "mark"]
noncomputable abbrev ir_store_undo_to : List IS := [
  .whl (.cmp .Gt (.len (.att (.loc "self") "trail")) (.loc "mark")) [
    .asg (.one "entry") (.mb (.att (.loc "self") "trail") "pop" []),
    .ife (.cmp .GtE (.loc "entry") (.con (.int 0))) [
      .ssub (.att (.loc "self") "heap") (.loc "entry") (.tup [(.con (.int 0)), (.loc "entry")])] [
      .asg (.one "slot") (.bin .Sub (.neg (.con (.int 1))) (.loc "entry")),
      .ssub (.att (.loc "self") "stack") (.loc "slot") (.tup [(.con (.int 1)), (.loc "slot")])]]]
noncomputable def ps_store_stack_put : List Str := ["self", "i", "value"]
noncomputable abbrev ir_store_stack_put : List IS := [
  .asg (.one "stack") (.att (.loc "self") "stack"),
  .ife (.cmp .Lt (.loc "i") (.len (.loc "stack"))) [
    .ssub (.loc "stack") (.loc "i") (.loc "value"),
    .retN] [],
  .whl (.cmp .Lt (.len (.loc "stack")) (.loc "i")) [
    .exp (.mb (.loc "stack") "append" [.bad])],
  .exp (.mb (.loc "stack") "append" [(.loc "value")])]
noncomputable def ps_store_is_compound : List Str := ["self", "cell"]
noncomputable abbrev ir_store_is_compound : List IS := [
  .ret (.orE (.cmp .Eq (.sub (.loc "cell") (.con (.int 0))) (.con (.int 2))) (.cmp .Eq (.sub (.loc "cell") (.con (.int 0))) (.con (.int 3))))]
noncomputable def ps_store_functor_of : List Str := ["self", "cell"]
noncomputable abbrev ir_store_functor_of : List IS := [
  .asg (.one "tag") (.sub (.loc "cell") (.con (.int 0))),
  .ife (.cmp .Eq (.loc "tag") (.con (.int 2))) [
    .ret (.sub (.sub (.att (.loc "self") "heap") (.sub (.loc "cell") (.con (.int 1)))) (.con (.int 1)))] [],
  .ife (.cmp .Eq (.loc "tag") (.con (.int 3))) [
    .ret (.con (.int 0))] [],
  .ife (.cmp .Eq (.loc "tag") (.con (.int 4))) [
    .ret (.met .sym (.att (.loc "self") "symbols") "functor" [(.sub (.loc "cell") (.con (.int 1))), (.con (.int 0))])] [],
  .ret (.neg (.con (.int 1)))]
noncomputable def ps_store_width : List Str := ["self", "cell"]
noncomputable abbrev ir_store_width : List IS := [
  .asg (.one "tag") (.sub (.loc "cell") (.con (.int 0))),
  .ife (.cmp .Eq (.loc "tag") (.con (.int 3))) [
    .ret (.con (.int 2))] [],
  .ife (.cmp .Eq (.loc "tag") (.con (.int 2))) [
    .ret (.met .sym (.att (.loc "self") "symbols") "arity" [(.sub (.sub (.att (.loc "self") "heap") (.sub (.loc "cell") (.con (.int 1)))) (.con (.int 1)))])] [],
  .ret (.con (.int 0))]
noncomputable def ps_store_base : List Str := ["self", "cell"]
noncomputable abbrev ir_store_base : List IS := [
  .ife (.cmp .Eq (.sub (.loc "cell") (.con (.int 0))) (.con (.int 3))) [
    .ret (.sub (.loc "cell") (.con (.int 1)))] [],
  .ret (.bin .Add (.sub (.loc "cell") (.con (.int 1))) (.con (.int 1)))]
noncomputable def ps_store_new_block : List Str := ["self", "f"]
noncomputable abbrev ir_store_new_block : List IS := [
  .ife (.cmp .Eq (.loc "f") (.con (.int 0))) [
    .ret (.tup [(.con (.int 3)), (.met .store (.loc "self") "reserve" [(.con (.int 2))])])] [],
  .asg (.one "start") (.met .store (.loc "self") "reserve" [(.bin .Add (.con (.int 1)) (.met .sym (.att (.loc "self") "symbols") "arity" [(.loc "f")]))]),
  .ssub (.att (.loc "self") "heap") (.loc "start") (.tup [(.con (.int 6)), (.loc "f")]),
  .ret (.tup [(.con (.int 2)), (.loc "start")])]
noncomputable def ps_store_put_term : List Str := ["self", "term", "table"]
noncomputable abbrev ir_store_put_term : List IS := [
  .forE (.one "k") (.listc (.loc "table")) [
    .ife (.cmp .Eq (.sub (.sub (.loc "table") (.loc "k")) (.con (.int 0))) (.con (.int 1))) [
      .ssub (.loc "table") (.loc "k") (.met .store (.loc "self") "globalise" [(.sub (.loc "table") (.loc "k"))])] []],
  .asg (.one "kind") (.sub (.loc "term") (.con (.int 0))),
  .ife (.cmp .Eq (.loc "kind") (.con (.str "v"))) [
    .ife (.cmp .NotIn (.sub (.loc "term") (.con (.int 1))) (.loc "table")) [
      .ssub (.loc "table") (.sub (.loc "term") (.con (.int 1))) (.met .store (.loc "self") "new_var" [])] [],
    .ret (.sub (.loc "table") (.sub (.loc "term") (.con (.int 1))))] [],
  .ife (.cmp .Eq (.loc "kind") (.con (.str "a"))) [
    .ret (.tup [(.con (.int 4)), (.sub (.loc "term") (.con (.int 1)))])] [],
  .ife (.cmp .Eq (.loc "kind") (.con (.str "i"))) [
    .ret (.tup [(.con (.int 5)), (.sub (.loc "term") (.con (.int 1)))])] [],
  .asg (.one "made") (.met .store (.loc "self") "new_block" [(.sub (.loc "term") (.con (.int 1)))]),
  .asg (.one "waiting") (.lst [(.tup [(.met .store (.loc "self") "base" [(.loc "made")]), (.sub (.loc "term") (.con (.int 2)))])]),
  .asg (.one "at") (.con (.int 0)),
  .whl (.cmp .Lt (.loc "at") (.len (.loc "waiting"))) [
    .asg (.many ["place", "items"]) (.sub (.loc "waiting") (.loc "at")),
    .aug "at" .Add (.con (.int 1)),
    .forE (.one "item") (.loc "items") [
      .asg (.one "kind") (.sub (.loc "item") (.con (.int 0))),
      .ife (.cmp .Eq (.loc "kind") (.con (.str "v"))) [
        .ife (.cmp .In (.sub (.loc "item") (.con (.int 1))) (.loc "table")) [
          .ssub (.att (.loc "self") "heap") (.loc "place") (.sub (.loc "table") (.sub (.loc "item") (.con (.int 1))))] [
          .ssub (.loc "table") (.sub (.loc "item") (.con (.int 1))) (.tup [(.con (.int 0)), (.loc "place")])]] [
        .ife (.cmp .Eq (.loc "kind") (.con (.str "a"))) [
          .ssub (.att (.loc "self") "heap") (.loc "place") (.tup [(.con (.int 4)), (.sub (.loc "item") (.con (.int 1)))])] [
          .ife (.cmp .Eq (.loc "kind") (.con (.str "i"))) [
            .ssub (.att (.loc "self") "heap") (.loc "place") (.tup [(.con (.int 5)), (.sub (.loc "item") (.con (.int 1)))])] [
            .asg (.one "inner") (.met .store (.loc "self") "new_block" [(.sub (.loc "item") (.con (.int 1)))]),
            .ssub (.att (.loc "self") "heap") (.loc "place") (.loc "inner"),
            .exp (.mb (.loc "waiting") "append" [(.tup [(.met .store (.loc "self") "base" [(.loc "inner")]), (.sub (.loc "item") (.con (.int 2)))])])]]],
      .aug "place" .Add (.con (.int 1))]],
  .ret (.loc "made")]
noncomputable def ps_store_take_term : List Str := ["self", "cell", "table"]
noncomputable abbrev ir_store_take_term : List IS := [
  .asg (.one "known") .dct,
  .asg (.one "results") (.lst []),
  .asg (.one "work") (.lst [(.tup [(.con (.int 0)), (.met .store (.loc "self") "globalise" [(.loc "cell")])])]),
  .whl (.cmp .Gt (.len (.loc "work")) (.con (.int 0))) [
    .asg (.many ["what", "cell"]) (.mb (.loc "work") "pop" []),
    .ife (.cmp .Eq (.loc "what") (.con (.int 1))) [
      .asg (.one "f") (.met .store (.loc "self") "functor_of" [(.loc "cell")]),
      .asg (.one "first") (.bin .Sub (.len (.loc "results")) (.met .store (.loc "self") "width" [(.loc "cell")])),
      .asg (.one "term") (.tup [(.con (.str "s")), (.loc "f"), (.tupl (.slcL (.loc "results") (.loc "first")))]),
      .del (.loc "results") (.loc "first"),
      .ssub (.loc "known") (.sub (.loc "cell") (.con (.int 1))) (.loc "term"),
      .exp (.mb (.loc "results") "append" [(.loc "term")]),
      .cnt] [],
    .asg (.one "cell") (.met .store (.loc "self") "deref" [(.loc "cell")]),
    .asg (.one "tag") (.sub (.loc "cell") (.con (.int 0))),
    .ife (.cmp .Eq (.loc "tag") (.con (.int 0))) [
      .ife (.cmp .NotIn (.sub (.loc "cell") (.con (.int 1))) (.loc "table")) [
        .ssub (.loc "table") (.sub (.loc "cell") (.con (.int 1))) (.len (.loc "table"))] [],
      .exp (.mb (.loc "results") "append" [(.tup [(.con (.str "v")), (.sub (.loc "table") (.sub (.loc "cell") (.con (.int 1))))])])] [
      .ife (.cmp .Eq (.loc "tag") (.con (.int 4))) [
        .exp (.mb (.loc "results") "append" [(.tup [(.con (.str "a")), (.sub (.loc "cell") (.con (.int 1)))])])] [
        .ife (.cmp .Eq (.loc "tag") (.con (.int 5))) [
          .exp (.mb (.loc "results") "append" [(.tup [(.con (.str "i")), (.sub (.loc "cell") (.con (.int 1)))])])] [
          .ife (.cmp .In (.sub (.loc "cell") (.con (.int 1))) (.loc "known")) [
            .asg (.one "term") (.sub (.loc "known") (.sub (.loc "cell") (.con (.int 1)))),
            .ife (.cmp .Is (.loc "term") (.con .none)) [
              .bad] [],
            .exp (.mb (.loc "results") "append" [(.loc "term")])] [
            .ssub (.loc "known") (.sub (.loc "cell") (.con (.int 1))) (.con .none),
            .exp (.mb (.loc "work") "append" [(.tup [(.con (.int 1)), (.loc "cell")])]),
            .asg (.one "place") (.met .store (.loc "self") "base" [(.loc "cell")]),
            .forR "step" [(.bin .Sub (.met .store (.loc "self") "width" [(.loc "cell")]) (.con (.int 1))), (.neg (.con (.int 1))), (.neg (.con (.int 1)))] [
              .exp (.mb (.loc "work") "append" [(.tup [(.con (.int 0)), (.sub (.att (.loc "self") "heap") (.bin .Add (.loc "place") (.loc "step")))])])]]]]]],
  .ret (.sub (.loc "results") (.con (.int 0)))]
noncomputable def ps_pairs_init : List Str := ["self", "store"]
noncomputable abbrev ir_pairs_init : List IS := [
  .satt (.loc "self") "span" (.bin .Add (.len (.att (.loc "store") "heap")) (.con (.int 1))),
  .satt (.loc "self") "met" .newset]
noncomputable def ps_pairs_add : List Str := ["self", "left", "right"]
noncomputable abbrev ir_pairs_add : List IS := [
  .asg (.one "number") (.bin .Add (.bin .Mult (.sub (.loc "left") (.con (.int 1))) (.att (.loc "self") "span")) (.sub (.loc "right") (.con (.int 1)))),
  .ife (.cmp .In (.loc "number") (.att (.loc "self") "met")) [
    .ret (.con (.bool false))] [],
  .exp (.mb (.att (.loc "self") "met") "add" [(.loc "number")]),
  .ret (.con (.bool true))]
noncomputable def ps_fn_push_arguments : List Str := ["store", "cell", "work"]
noncomputable abbrev ir_fn_push_arguments : List IS := [
  .asg (.one "place") (.met .store (.loc "store") "base" [(.loc "cell")]),
  .forR "step" [(.bin .Sub (.met .store (.loc "store") "width" [(.loc "cell")]) (.con (.int 1))), (.neg (.con (.int 1))), (.neg (.con (.int 1)))] [
    .exp (.mb (.loc "work") "append" [(.sub (.att (.loc "store") "heap") (.bin .Add (.loc "place") (.loc "step")))])]]
noncomputable def ps_fn_push_pairs : List Str := ["store", "left", "right", "work"]
noncomputable abbrev ir_fn_push_pairs : List IS := [
  .asg (.one "left_place") (.met .store (.loc "store") "base" [(.loc "left")]),
  .asg (.one "right_place") (.met .store (.loc "store") "base" [(.loc "right")]),
  .forR "step" [(.bin .Sub (.met .store (.loc "store") "width" [(.loc "left")]) (.con (.int 1))), (.neg (.con (.int 1))), (.neg (.con (.int 1)))] [
    .exp (.mb (.loc "work") "append" [(.tup [(.sub (.att (.loc "store") "heap") (.bin .Add (.loc "left_place") (.loc "step"))), (.sub (.att (.loc "store") "heap") (.bin .Add (.loc "right_place") (.loc "step")))])])]]
noncomputable def ps_fn_same_shape : List Str := ["store", "left", "right"]
noncomputable abbrev ir_fn_same_shape : List IS := [
  .ife (.cmp .NotEq (.sub (.loc "left") (.con (.int 0))) (.sub (.loc "right") (.con (.int 0)))) [
    .ret (.con (.bool false))] [],
  .ife (.cmp .Eq (.sub (.loc "left") (.con (.int 0))) (.con (.int 3))) [
    .ret (.con (.bool true))] [],
  .ret (.cmp .Eq (.sub (.att (.loc "store") "heap") (.sub (.loc "left") (.con (.int 1)))) (.sub (.att (.loc "store") "heap") (.sub (.loc "right") (.con (.int 1)))))]
noncomputable def ps_fn_is_variable : List Str := ["cell"]
noncomputable abbrev ir_fn_is_variable : List IS := [
  .ret (.orE (.cmp .Eq (.sub (.loc "cell") (.con (.int 0))) (.con (.int 0))) (.cmp .Eq (.sub (.loc "cell") (.con (.int 0))) (.con (.int 1))))]
noncomputable def ps_fn_unify : List Str := ["store", "c1", "c2", "occurs"]
noncomputable abbrev ir_fn_unify : List IS := [
  .asg (.one "met") (.new .pairs [(.loc "store")]),
  .asg (.one "work") (.lst [(.tup [(.loc "c1"), (.loc "c2")])]),
  .whl (.cmp .Gt (.len (.loc "work")) (.con (.int 0))) [
    .asg (.many ["left", "right"]) (.mb (.loc "work") "pop" []),
    .asg (.one "left") (.met .store (.loc "store") "deref" [(.loc "left")]),
    .asg (.one "right") (.met .store (.loc "store") "deref" [(.loc "right")]),
    .ife (.cmp .Eq (.loc "left") (.loc "right")) [
      .cnt] [],
    .ife (.fn "is_variable" [(.loc "left")]) [
      .ife (.fn "is_variable" [(.loc "right")]) [
        .exp (.met .store (.loc "store") "bind_pair" [(.loc "left"), (.loc "right")])] [
        .ife (.notE (.fn "bind_checked" [(.loc "store"), (.loc "left"), (.loc "right"), (.loc "occurs")])) [
          .ret (.con (.bool false))] []]] [
      .ife (.fn "is_variable" [(.loc "right")]) [
        .ife (.notE (.fn "bind_checked" [(.loc "store"), (.loc "right"), (.loc "left"), (.loc "occurs")])) [
          .ret (.con (.bool false))] []] [
        .ife (.andE (.met .store (.loc "store") "is_compound" [(.loc "left")]) (.fn "same_shape" [(.loc "store"), (.loc "left"), (.loc "right")])) [
          .ife (.met .pairs (.loc "met") "add" [(.loc "left"), (.loc "right")]) [
            .exp (.fn "push_pairs" [(.loc "store"), (.loc "left"), (.loc "right"), (.loc "work")])] []] [
          .ret (.con (.bool false))]]]],
  .ret (.con (.bool true))]
noncomputable def ps_fn_bind_checked : List Str := ["store", "variable", "value", "occurs"]
noncomputable abbrev ir_fn_bind_checked : List IS := [
  .ife (.andE (.loc "occurs") (.fn "occurs_in" [(.loc "store"), (.loc "variable"), (.loc "value")])) [
    .ret (.con (.bool false))] [],
  .exp (.met .store (.loc "store") "bind" [(.loc "variable"), (.loc "value")]),
  .ret (.con (.bool true))]
noncomputable def ps_fn_trial : List Str := ["store", "c1", "c2", "occurs"]
noncomputable abbrev ir_fn_trial : List IS := [
  .asg (.one "hb") (.att (.loc "store") "hb"),
  .asg (.one "bb") (.att (.loc "store") "bb"),
  .asg (.one "mark") (.met .store (.loc "store") "mark" []),
  .satt (.loc "store") "hb" (.len (.att (.loc "store") "heap")),
  .satt (.loc "store") "bb" (.len (.att (.loc "store") "stack")),
  .asg (.one "found") (.fn "unify" [(.loc "store"), (.loc "c1"), (.loc "c2"), (.loc "occurs")]),
  .exp (.met .store (.loc "store") "undo_to" [(.loc "mark")]),
  .satt (.loc "store") "hb" (.loc "hb"),
  .satt (.loc "store") "bb" (.loc "bb"),
  .ret (.loc "found")]
noncomputable def ps_fn_occurs_in : List Str := ["store", "variable", "cell"]
noncomputable abbrev ir_fn_occurs_in : List IS := [
  .asg (.one "cell") (.met .store (.loc "store") "deref" [(.loc "cell")]),
  .ife (.cmp .Eq (.loc "cell") (.loc "variable")) [
    .ret (.con (.bool true))] [],
  .ife (.orE (.cmp .Eq (.sub (.loc "variable") (.con (.int 0))) (.con (.int 1))) (.notE (.met .store (.loc "store") "is_compound" [(.loc "cell")]))) [
    .ret (.con (.bool false))] [],
  .asg (.one "met") .newset,
  .asg (.one "work") (.lst [(.loc "cell")]),
  .whl (.cmp .Gt (.len (.loc "work")) (.con (.int 0))) [
    .asg (.one "cell") (.met .store (.loc "store") "deref" [(.mb (.loc "work") "pop" [])]),
    .ife (.cmp .Eq (.loc "cell") (.loc "variable")) [
      .ret (.con (.bool true))] [],
    .ife (.andE (.met .store (.loc "store") "is_compound" [(.loc "cell")]) (.cmp .NotIn (.sub (.loc "cell") (.con (.int 1))) (.loc "met"))) [
      .exp (.mb (.loc "met") "add" [(.sub (.loc "cell") (.con (.int 1)))]),
      .exp (.fn "push_arguments" [(.loc "store"), (.loc "cell"), (.loc "work")])] []],
  .ret (.con (.bool false))]
noncomputable def ps_fn_law_row : List Str := ["script"]
noncomputable abbrev ir_fn_law_row : List IS := [
  .asg (.one "row") (.lst []),
  .forE (.one "cell") (.slcH (.loc "script") (.con (.int 40))) [
    .asg (.one "number") (.ite (.cmp .GtE (.loc "cell") (.con (.int 0))) (.loc "cell") (.bin .Sub (.con (.int 7)) (.loc "cell"))),
    .exp (.mb (.loc "row") "append" [(.bin .Mod (.loc "number") (.con (.int 1013)))]),
    .asg (.one "number") (.bin .FloorDiv (.loc "number") (.con (.int 1013))),
    .forR "turn" [(.con (.int 30))] [
      .ife (.cmp .Gt (.loc "number") (.con (.int 0))) [
        .exp (.mb (.loc "row") "append" [(.bin .Mod (.loc "number") (.con (.int 1013)))]),
        .asg (.one "number") (.bin .FloorDiv (.loc "number") (.con (.int 1013)))] []]],
  .asg (.one "row") (.slcH (.loc "row") (.con (.int 120))),
  .exp (.mb (.loc "row") "reverse" []),
  .ret (.loc "row")]
noncomputable def ps_fn_law_next : List Str := ["row"]
noncomputable abbrev ir_fn_law_next : List IS := [
  .ret (.ite (.cmp .NotEq (.loc "row") (.lst [])) (.mb (.loc "row") "pop" []) (.con (.int 0)))]
noncomputable def ps_fn_law_term : List Str := ["row", "deep"]
noncomputable abbrev ir_fn_law_term : List IS := [
  .asg (.one "kind") (.bin .Mod (.fn "_law_next" [(.loc "row")]) (.ite (.cmp .Gt (.loc "deep") (.con (.int 0))) (.con (.int 8)) (.con (.int 3)))),
  .ife (.cmp .Eq (.loc "kind") (.con (.int 1))) [
    .ret (.tup [(.con (.str "a")), (.sub (.lst [(.con (.int 0)), (.con (.int 4))]) (.bin .Mod (.fn "_law_next" [(.loc "row")]) (.con (.int 2))))])] [],
  .ife (.cmp .Eq (.loc "kind") (.con (.int 2))) [
    .ret (.tup [(.con (.str "i")), (.sub (.lst [(.con (.int 0)), (.con (.int 1)), (.neg (.con (.int 1))), (.bin .Pow (.con (.int 10)) (.con (.int 30)))]) (.bin .Mod (.fn "_law_next" [(.loc "row")]) (.con (.int 4))))])] [],
  .ife (.cmp .Eq (.loc "kind") (.con (.int 4))) [
    .ret (.tup [(.con (.str "s")), (.con (.int 12)), (.tup [(.fn "_law_term" [(.loc "row"), (.bin .Sub (.loc "deep") (.con (.int 1)))])])])] [],
  .ife (.cmp .Gt (.loc "kind") (.con (.int 4))) [
    .asg (.one "first") (.fn "_law_term" [(.loc "row"), (.bin .Sub (.loc "deep") (.con (.int 1)))]),
    .ret (.tup [(.con (.str "s")), (.ite (.cmp .Eq (.loc "kind") (.con (.int 7))) (.con (.int 0)) (.con (.int 13))), (.tup [(.loc "first"), (.fn "_law_term" [(.loc "row"), (.bin .Sub (.loc "deep") (.con (.int 1)))])])])] [],
  .ret (.tup [(.con (.str "v")), (.bin .Mod (.fn "_law_next" [(.loc "row")]) (.con (.int 5)))])]
noncomputable def ps_fn_law_turned : List Str := ["row", "term"]
noncomputable abbrev ir_fn_law_turned : List IS := [
  .asg (.one "draw") (.bin .Mod (.fn "_law_next" [(.loc "row")]) (.con (.int 6))),
  .ife (.cmp .Eq (.loc "draw") (.con (.int 5))) [
    .ret (.fn "_law_term" [(.loc "row"), (.con (.int 1))])] [],
  .ife (.cmp .Eq (.loc "draw") (.con (.int 4))) [
    .ret (.tup [(.con (.str "v")), (.bin .Mod (.fn "_law_next" [(.loc "row")]) (.con (.int 5)))])] [],
  .ife (.cmp .Eq (.sub (.loc "term") (.con (.int 0))) (.con (.str "s"))) [
    .ret (.tup [(.con (.str "s")), (.sub (.loc "term") (.con (.int 1))), (.tupl (.lcE (.fn "_law_turned" [(.loc "row"), (.loc "part")]) (.one "part") (.sub (.loc "term") (.con (.int 2))) ["row"]))])] [],
  .ret (.loc "term")]
noncomputable def ps_fn_law_equation : List Str := ["row"]
noncomputable abbrev ir_fn_law_equation : List IS := [
  .asg (.one "kind") (.bin .Mod (.fn "_law_next" [(.loc "row")]) (.con (.int 4))),
  .ife (.cmp .Eq (.loc "kind") (.con (.int 0))) [
    .asg (.one "one") (.fn "_law_term" [(.loc "row"), (.con (.int 2))]),
    .asg (.one "two") (.fn "_law_turned" [(.loc "row"), (.loc "one")])] [
    .ife (.cmp .Eq (.loc "kind") (.con (.int 1))) [
      .asg (.one "one") (.fn "_law_term" [(.loc "row"), (.con (.int 2))]),
      .asg (.one "two") (.fn "_law_term" [(.loc "row"), (.con (.int 2))])] [
      .ife (.cmp .Eq (.loc "kind") (.con (.int 2))) [
        .asg (.one "one") (.tup [(.con (.str "v")), (.bin .Add (.con (.int 5)) (.bin .Mod (.fn "_law_next" [(.loc "row")]) (.con (.int 2))))]),
        .asg (.one "two") (.fn "_law_term" [(.loc "row"), (.con (.int 2))])] [
        .asg (.one "one") (.tup [(.con (.str "v")), (.bin .Add (.con (.int 5)) (.bin .Mod (.fn "_law_next" [(.loc "row")]) (.con (.int 2))))]),
        .asg (.one "two") (.tup [(.con (.str "v")), (.bin .Mod (.fn "_law_next" [(.loc "row")]) (.con (.int 7)))])]]],
  .ret (.ite (.cmp .Eq (.bin .Mod (.fn "_law_next" [(.loc "row")]) (.con (.int 2))) (.con (.int 0))) (.tup [(.loc "one"), (.loc "two")]) (.tup [(.loc "two"), (.loc "one")]))]
noncomputable def ps_fn_law_end : List Str := ["term", "bound"]
noncomputable abbrev ir_fn_law_end : List IS := [
  .whl (.andE (.cmp .Eq (.sub (.loc "term") (.con (.int 0))) (.con (.str "v"))) (.cmp .In (.sub (.loc "term") (.con (.int 1))) (.loc "bound"))) [
    .asg (.one "term") (.sub (.loc "bound") (.sub (.loc "term") (.con (.int 1))))],
  .ret (.loc "term")]
noncomputable def ps_fn_law_inside : List Str := ["k", "term", "bound"]
noncomputable abbrev ir_fn_law_inside : List IS := [
  .asg (.one "work") (.lst [(.loc "term")]),
  .whl (.cmp .NotEq (.loc "work") (.lst [])) [
    .asg (.one "term") (.fn "_law_end" [(.mb (.loc "work") "pop" []), (.loc "bound")]),
    .ife (.cmp .Eq (.loc "term") (.tup [(.con (.str "v")), (.loc "k")])) [
      .ret (.con (.bool true))] [],
    .ife (.cmp .Eq (.sub (.loc "term") (.con (.int 0))) (.con (.str "s"))) [
      .exp (.mb (.loc "work") "extend" [(.sub (.loc "term") (.con (.int 2)))])] []],
  .ret (.con (.bool false))]
noncomputable def ps_fn_law_solved : List Str := ["equations"]
noncomputable abbrev ir_fn_law_solved : List IS := [
  .asg (.one "bound") .dct,
  .asg (.one "work") (.listc (.loc "equations")),
  .whl (.cmp .NotEq (.loc "work") (.lst [])) [
    .asg (.many ["one", "two"]) (.mb (.loc "work") "pop" []),
    .asg (.one "one") (.fn "_law_end" [(.loc "one"), (.loc "bound")]),
    .asg (.one "two") (.fn "_law_end" [(.loc "two"), (.loc "bound")]),
    .ife (.andE (.cmp .NotEq (.sub (.loc "one") (.con (.int 0))) (.con (.str "v"))) (.cmp .Eq (.sub (.loc "two") (.con (.int 0))) (.con (.str "v")))) [
      .asg (.many ["one", "two"]) (.tup [(.loc "two"), (.loc "one")])] [],
    .ife (.cmp .Eq (.loc "one") (.loc "two")) [
      .cnt] [],
    .ife (.cmp .Eq (.sub (.loc "one") (.con (.int 0))) (.con (.str "v"))) [
      .ife (.fn "_law_inside" [(.sub (.loc "one") (.con (.int 1))), (.loc "two"), (.loc "bound")]) [
        .ret (.con .none)] [],
      .ssub (.loc "bound") (.sub (.loc "one") (.con (.int 1))) (.loc "two")] [
      .ife (.andE (.cmp .Eq (.sub (.loc "one") (.con (.int 0))) (.con (.str "s"))) (.andE (.cmp .Eq (.sub (.loc "two") (.con (.int 0))) (.con (.str "s"))) (.cmp .Eq (.sub (.loc "one") (.con (.int 1))) (.sub (.loc "two") (.con (.int 1)))))) [
        .extZ (.loc "work") (.sub (.loc "one") (.con (.int 2))) (.sub (.loc "two") (.con (.int 2)))] [
        .ret (.con .none)]]],
  .ret (.loc "bound")]
noncomputable def ps_fn_law_whole : List Str := ["term", "bound", "names"]
noncomputable abbrev ir_fn_law_whole : List IS := [
  .asg (.one "term") (.fn "_law_end" [(.loc "term"), (.loc "bound")]),
  .ife (.cmp .Eq (.sub (.loc "term") (.con (.int 0))) (.con (.str "v"))) [
    .ife (.cmp .NotIn (.sub (.loc "term") (.con (.int 1))) (.loc "names")) [
      .ssub (.loc "names") (.sub (.loc "term") (.con (.int 1))) (.len (.loc "names"))] [],
    .ret (.tup [(.con (.str "v")), (.sub (.loc "names") (.sub (.loc "term") (.con (.int 1))))])] [],
  .ife (.cmp .Eq (.sub (.loc "term") (.con (.int 0))) (.con (.str "s"))) [
    .ret (.tup [(.con (.str "s")), (.sub (.loc "term") (.con (.int 1))), (.tupl (.lcE (.fn "_law_whole" [(.loc "part"), (.loc "bound"), (.loc "names")]) (.one "part") (.sub (.loc "term") (.con (.int 2))) ["bound", "names"]))])] [],
  .ret (.loc "term")]
noncomputable def ps_fn_law_cell : List Str := ["store", "term", "known"]
noncomputable abbrev ir_fn_law_cell : List IS := [
  .ife (.andE (.cmp .Eq (.sub (.loc "term") (.con (.int 0))) (.con (.str "v"))) (.cmp .Gt (.sub (.loc "term") (.con (.int 1))) (.con (.int 4)))) [
    .ret (.tup [(.con (.int 1)), (.bin .Sub (.sub (.loc "term") (.con (.int 1))) (.con (.int 5)))])] [],
  .ret (.met .store (.loc "store") "put_term" [(.loc "term"), (.loc "known")])]
noncomputable def ps_fn_law_right : List Str := ["equations", "occurs", "high", "low"]
noncomputable abbrev ir_fn_law_right : List IS := [
  .asg (.one "store") (.new .store [(.new .sym [])]),
  .asg (.one "known") .dct,
  .forR "k" [(.con (.int 5))] [
    .ssub (.loc "known") (.loc "k") (.met .store (.loc "store") "new_var" [])],
  .exp (.met .store (.loc "store") "stack_put" [(.con (.int 0)), (.tup [(.con (.int 1)), (.con (.int 0))])]),
  .exp (.met .store (.loc "store") "stack_put" [(.con (.int 1)), (.tup [(.con (.int 1)), (.con (.int 1))])]),
  .asg (.one "pairs") (.lcE (.tup [(.fn "_law_cell" [(.loc "store"), (.loc "one"), (.loc "known")]), (.fn "_law_cell" [(.loc "store"), (.loc "two"), (.loc "known")])]) (.many ["one", "two"]) (.loc "equations") ["known", "store"]),
  .satt (.loc "store") "hb" (.ite (.cmp .Lt (.loc "high") (.con (.int 6))) (.loc "high") (.len (.att (.loc "store") "heap"))),
  .satt (.loc "store") "bb" (.loc "low"),
  .asg (.one "heap") (.listc (.att (.loc "store") "heap")),
  .asg (.one "stack") (.listc (.att (.loc "store") "stack")),
  .asg (.one "told") (.fn "trial" [(.loc "store"), (.sub (.sub (.loc "pairs") (.con (.int 0))) (.con (.int 0))), (.sub (.sub (.loc "pairs") (.con (.int 0))) (.con (.int 1))), (.loc "occurs")]),
  .ife (.orE (.notE (.isbool (.loc "told"))) (.cmp .NotEq (.loc "told") (.cmp .IsNot (.fn "_law_solved" [(.slcH (.loc "equations") (.con (.int 1)))]) (.con .none)))) [
    .ret (.con (.bool false))] [],
  .ife (.orE (.cmp .NotEq (.att (.loc "store") "heap") (.loc "heap")) (.orE (.cmp .NotEq (.att (.loc "store") "stack") (.loc "stack")) (.cmp .NotEq (.att (.loc "store") "trail") (.lst [])))) [
    .ret (.con (.bool false))] [],
  .ife (.cmp .NotEq (.tup [(.att (.loc "store") "hb"), (.att (.loc "store") "bb")]) (.tup [(.ite (.cmp .Lt (.loc "high") (.con (.int 6))) (.loc "high") (.len (.loc "heap"))), (.loc "low")])) [
    .ret (.con (.bool false))] [],
  .asg (.one "mark") (.met .store (.loc "store") "mark" []),
  .forR "place" [(.len (.loc "pairs"))] [
    .asg (.one "bound") (.fn "_law_solved" [(.slcH (.loc "equations") (.bin .Add (.loc "place") (.con (.int 1))))]),
    .asg (.one "told") (.fn "unify" [(.loc "store"), (.sub (.sub (.loc "pairs") (.loc "place")) (.con (.int 0))), (.sub (.sub (.loc "pairs") (.loc "place")) (.con (.int 1))), (.loc "occurs")]),
    .ife (.orE (.notE (.isbool (.loc "told"))) (.cmp .NotEq (.loc "told") (.cmp .IsNot (.loc "bound") (.con .none)))) [
      .ret (.con (.bool false))] [],
    .ife (.notE (.loc "told")) [
      .brk] []],
  .ife (.cmp .IsNot (.loc "bound") (.con .none)) [
    .forR "address" [(.len (.att (.loc "store") "heap"))] [
      .asg (.one "cell") (.sub (.att (.loc "store") "heap") (.loc "address")),
      .ife (.orE (.cmp .Eq (.sub (.loc "cell") (.con (.int 0))) (.con (.int 1))) (.andE (.cmp .Eq (.sub (.loc "cell") (.con (.int 0))) (.con (.int 0))) (.notE (.chn (.con (.int 0)) .LtE (.sub (.loc "cell") (.con (.int 1))) .LtE (.loc "address"))))) [
        .ret (.con (.bool false))] []],
    .forR "place" [(.con (.int 2))] [
      .ife (.andE (.cmp .Eq (.sub (.sub (.att (.loc "store") "stack") (.loc "place")) (.con (.int 0))) (.con (.int 1))) (.notE (.chn (.con (.int 0)) .LtE (.sub (.sub (.att (.loc "store") "stack") (.loc "place")) (.con (.int 1))) .LtE (.loc "place")))) [
        .ret (.con (.bool false))] []],
    .asg (.one "numbers") .dct,
    .asg (.one "values") (.lcR (.met .store (.loc "store") "take_term" [(.tup [(.con (.int 0)), (.loc "k")]), (.loc "numbers")]) "k" (.con (.int 5)) ["numbers", "store"]),
    .aug "values" .Add (.lcR (.met .store (.loc "store") "take_term" [(.tup [(.con (.int 1)), (.loc "place")]), (.loc "numbers")]) "place" (.con (.int 2)) ["numbers", "store"]),
    .asg (.one "names") .dct,
    .ife (.cmp .NotEq (.loc "values") (.lcR (.fn "_law_whole" [(.tup [(.con (.str "v")), (.loc "k")]), (.loc "bound"), (.loc "names")]) "k" (.con (.int 7)) ["bound", "names"])) [
      .ret (.con (.bool false))] []] [],
  .exp (.met .store (.loc "store") "undo_to" [(.loc "mark")]),
  .exp (.met .store (.loc "store") "trim" [(.att (.loc "store") "hb")]),
  .ret (.andE (.cmp .Eq (.att (.loc "store") "heap") (.slcH (.loc "heap") (.att (.loc "store") "hb"))) (.andE (.cmp .Eq (.slcH (.att (.loc "store") "stack") (.loc "low")) (.slcH (.loc "stack") (.loc "low"))) (.cmp .Eq (.att (.loc "store") "trail") (.lst []))))]
noncomputable abbrev ir_fn_law : List IS := [
  .asg (.one "row") (.fn "_law_row" [(.loc "script")]),
  .asg (.one "equations") (.lst [(.fn "_law_equation" [(.loc "row")]), (.fn "_law_equation" [(.loc "row")])]),
  .asg (.one "high") (.bin .Mod (.fn "_law_next" [(.loc "row")]) (.con (.int 7))),
  .asg (.one "low") (.bin .Mod (.fn "_law_next" [(.loc "row")]) (.con (.int 3))),
  .ife (.notE (.fn "_law_right" [(.loc "equations"), (.con (.bool true)), (.loc "high"), (.loc "low")])) [
    .ret (.con (.bool false))] [],
  .ife (.cmp .Is (.fn "_law_solved" [(.loc "equations")]) (.con .none)) [
    .ret (.con (.bool true))] [],
  .ret (.fn "_law_right" [(.loc "equations"), (.con (.bool false)), (.loc "high"), (.loc "low")])]
structure Def where
  ps : List Str
  da : List Dt
  irs : List IS
noncomputable def defFn : List (Str × Def) := [("fixed_atoms", ⟨ps_fn_fixed_atoms, [], ir_fn_fixed_atoms⟩),
  ("fixed_functors", ⟨ps_fn_fixed_functors, [], ir_fn_fixed_functors⟩),
  ("push_arguments", ⟨ps_fn_push_arguments, [], ir_fn_push_arguments⟩),
  ("push_pairs", ⟨ps_fn_push_pairs, [], ir_fn_push_pairs⟩),
  ("same_shape", ⟨ps_fn_same_shape, [], ir_fn_same_shape⟩),
  ("is_variable", ⟨ps_fn_is_variable, [], ir_fn_is_variable⟩),
  ("unify", ⟨ps_fn_unify, [], ir_fn_unify⟩),
  ("bind_checked", ⟨ps_fn_bind_checked, [], ir_fn_bind_checked⟩),
  ("trial", ⟨ps_fn_trial, [], ir_fn_trial⟩),
  ("occurs_in", ⟨ps_fn_occurs_in, [], ir_fn_occurs_in⟩),
  ("_law_row", ⟨ps_fn_law_row, [], ir_fn_law_row⟩),
  ("_law_next", ⟨ps_fn_law_next, [], ir_fn_law_next⟩),
  ("_law_term", ⟨ps_fn_law_term, [], ir_fn_law_term⟩),
  ("_law_turned", ⟨ps_fn_law_turned, [], ir_fn_law_turned⟩),
  ("_law_equation", ⟨ps_fn_law_equation, [], ir_fn_law_equation⟩),
  ("_law_end", ⟨ps_fn_law_end, [], ir_fn_law_end⟩),
  ("_law_inside", ⟨ps_fn_law_inside, [], ir_fn_law_inside⟩),
  ("_law_solved", ⟨ps_fn_law_solved, [], ir_fn_law_solved⟩),
  ("_law_whole", ⟨ps_fn_law_whole, [], ir_fn_law_whole⟩),
  ("_law_cell", ⟨ps_fn_law_cell, [], ir_fn_law_cell⟩),
  ("_law_right", ⟨ps_fn_law_right, [], ir_fn_law_right⟩)]
noncomputable def def_sym : List (Str × Def) := [("__init__", ⟨ps_sym_init, [], ir_sym_init⟩),
  ("atom", ⟨ps_sym_atom, [], ir_sym_atom⟩),
  ("functor", ⟨ps_sym_functor, [], ir_sym_functor⟩),
  ("func", ⟨ps_sym_func, [], ir_sym_func⟩),
  ("name", ⟨ps_sym_name, [], ir_sym_name⟩),
  ("arity", ⟨ps_sym_arity, [], ir_sym_arity⟩)]
noncomputable def def_store : List (Str × Def) := [("__init__", ⟨ps_store_init, [.int 100000], ir_store_init⟩),
  ("push", ⟨ps_store_push, [], ir_store_push⟩),
  ("new_var", ⟨ps_store_new_var, [], ir_store_new_var⟩),
  ("reserve", ⟨ps_store_reserve, [], ir_store_reserve⟩),
  ("trim", ⟨ps_store_trim, [], ir_store_trim⟩),
  ("deref", ⟨ps_store_deref, [], ir_store_deref⟩),
  ("bind", ⟨ps_store_bind, [], ir_store_bind⟩),
  ("bind_pair", ⟨ps_store_bind_pair, [], ir_store_bind_pair⟩),
  ("globalise", ⟨ps_store_globalise, [], ir_store_globalise⟩),
  ("mark", ⟨ps_store_mark, [], ir_store_mark⟩),
  ("undo_to", ⟨ps_store_undo_to, [], ir_store_undo_to⟩),
  ("stack_put", ⟨ps_store_stack_put, [], ir_store_stack_put⟩),
  ("is_compound", ⟨ps_store_is_compound, [], ir_store_is_compound⟩),
  ("functor_of", ⟨ps_store_functor_of, [], ir_store_functor_of⟩),
  ("width", ⟨ps_store_width, [], ir_store_width⟩),
  ("base", ⟨ps_store_base, [], ir_store_base⟩),
  ("new_block", ⟨ps_store_new_block, [], ir_store_new_block⟩),
  ("put_term", ⟨ps_store_put_term, [], ir_store_put_term⟩),
  ("take_term", ⟨ps_store_take_term, [], ir_store_take_term⟩)]
noncomputable def def_pairs : List (Str × Def) := [("__init__", ⟨ps_pairs_init, [], ir_pairs_init⟩),
  ("add", ⟨ps_pairs_add, [], ir_pairs_add⟩)]
noncomputable def defs : Fk → Option Def
  | .fn x => defFn.lookup x
  | .me .sym m => def_sym.lookup m
  | .me .store m => def_store.lookup m
  | .me .pairs m => def_pairs.lookup m
structure Orc (C : Nat → Oracle) : Prop where
  intro : ∀ {k : Nat} {g : Fk} {d : Def} {vs : List AV} {H : AH} {Q : Post}, defs g = some d → vs.length + d.da.length = d.ps.length → Wxs (C k) d.irs (frameOf d.ps (vs ++ d.da.map AV.d)) H (retQ Q) → C (k + 1) g vs H Q
theorem toNat_inj : ∀ {a b : List Char}, a.map Char.toNat = b.map Char.toNat → a = b
  | [], [], _ => rfl
  | [], _ :: _, h => nomatch h
  | _ :: _, [], h => nomatch h
  | x :: a, y :: b, h => by
    injection h with h1 h2
    rw [Char.ext (UInt32.toNat_inj.mp h1), toNat_inj h2]
theorem str_inj {a b : String} (h : Str.ofString a = Str.ofString b) : a = b := by
  rw [Str.ofString_eq_toList, Str.ofString_eq_toList] at h
  injection h with h
  exact String.toList_inj.mp (toNat_inj (congrArg Array.toList h))
theorem Gr.refl (ms : List Addr) (H : AH) : Gr ms H H := fun _ _ _ h => h
theorem Gr.trans {m1 m2 : List Addr} {H1 H2 H3 : AH} (a : Gr m1 H1 H2) (b : Gr m2 H2 H3) (h : ∀ x ∈ m2, x ∈ m1 ∨ H1 x = none) : Gr m1 H1 H3 := fun x o hx e =>
  b x o (fun hm => (h x hm).elim hx fun h => by rw [h] at e; cases e) (a x o hx e)
theorem set_at (H : AH) (a : Addr) (o : AO) : H.set a o a = some o := if_pos rfl
theorem set_ne (H : AH) {a b : Addr} (o : AO) (h : b ≠ a) : H.set a o b = H b := if_neg h
theorem ne_new {H : AH} {a b : Addr} {o : AO} (h : H b = some o) (ha : H a = none) : b ≠ a := fun e => by rw [e, ha] at h; cases h
theorem keep_new {H : AH} {a b : Addr} {o o' : AO} (h : H b = some o) (ha : H a = none) : (H.set a o') b = some o := (set_ne _ _ (ne_new h ha)).trans h
theorem Gr.new {H : AH} {a : Addr} {o : AO} (ha : H a = none) : Gr [] H (H.set a o) := fun b x _ e => keep_new e ha
theorem gr_mem {ms : List Addr} {a : Addr} {H : AH} {o : AO} (h : a ∈ ms) : Gr ms H (H.set a o) := fun b x hb e => (set_ne _ _ (fun z => hb (by rw [z]; exact h))).trans e
theorem Gr.set {H : AH} {a : Addr} {o : AO} : Gr [a] H (H.set a o) := gr_mem (.head _)
noncomputable def iL (ns : List Int) : List Dt := ns.map .int
noncomputable def popV (ns : List Int) : Int := ns.getLastD 0
theorem plains_iL : ∀ ns : List Int, Dt.plains (iL ns) = true
  | [] => rfl
  | _ :: ns => plains_iL ns
theorem depths_iL : ∀ ns : List Int, Dt.depths (iL ns) = 0
  | [] => rfl
  | _ :: ns => (Nat.zero_max _).trans (depths_iL ns)
theorem oks_iL (ns : List Int) : Dt.oks (iL ns) := ⟨plains_iL ns, by rw [depths_iL]; exact Nat.zero_le _⟩
theorem oks_nil : Dt.oks [] := ⟨rfl, Nat.zero_le _⟩
theorem iL_snoc (l : List Int) (i : Int) : iL l ++ [.int i] = iL (l ++ [i]) := (List.map_append (l₁ := l) (l₂ := [i])).symm
theorem iL_len (l : List Int) : (iL l).length = l.length := List.length_map ..
theorem lim_eq : lim = 1000000 := rfl
end
section
open PySem PySem.W PyProof.Rows
theorem Gr.tr {ms : List Addr} {H1 H2 H3 : AH} (a : Gr ms H1 H2) (b : Gr ms H2 H3) : Gr ms H1 H3 := a.trans b fun _ h => .inl h
theorem Gr.up {ms m2 : List Addr} {H1 H2 : AH} (a : Gr ms H1 H2) (h : ∀ x ∈ ms, x ∈ m2) : Gr m2 H1 H2 := fun b o hb e => a b o (fun hm => hb (h b hm)) e
theorem Gr.up0 {m2 : List Addr} {H1 H2 : AH} (a : Gr [] H1 H2) : Gr m2 H1 H2 := a.up fun _ h => (nomatch h)
theorem Gr.back {ms : List Addr} {H H' : AH} (g : Gr ms H H') {a : Addr} (h : H' a = none) (hm : a ∉ ms) : H a = none := by
  cases e : H a with
  | none => rfl
  | some o => rw [g a o hm e] at h; cases h
structure Hv (l : List (Addr × AO)) (H : AH) : Prop where
  nd : (l.map (·.1)).Nodup
  at' : ∀ p ∈ l, H p.1 = some p.2
section
variable {l : List (Addr × AO)} {H H' : AH} {a : Addr} {o : AO}
theorem Hv.get (h : Hv l H) (i : Nat) (e : l[i]? = some (a, o)) : H a = some o := h.at' _ (List.mem_of_getElem? e)
theorem Hv.has (h : Hv l H) (ha : a ∈ l.map (·.1)) : ∃ o, H a = some o := by
  obtain ⟨p, hp, rfl⟩ := List.mem_map.mp ha
  exact ⟨_, h.at' p hp⟩
theorem Hv.ne (h : Hv l H) (ha : H a = none) : a ∉ l.map (·.1) := fun hm => by
  obtain ⟨o, e⟩ := h.has hm
  rw [ha] at e; cases e
theorem Hv.keep (h : Hv l H) (g : ∀ b ∈ l.map (·.1), ∀ o, H b = some o → H' b = some o) : Hv l H' := ⟨h.nd, fun p hp => g _ (List.mem_map_of_mem hp) _ (h.at' p hp)⟩
theorem Hv.other (h : Hv l H) (ha : a ∉ l.map (·.1)) : Hv l (H.set a o) := h.keep fun b hb o' e => by
  rw [set_ne _ _ (fun z => ha (by rw [← z]; exact hb))]; exact e
theorem Hv.snoc (h : Hv l H) (ha : a ∉ l.map (·.1)) (e : H a = some o) : Hv (l ++ [(a, o)]) H := by
  refine ⟨?_, fun p hp => ?_⟩
  · rw [List.map_append]
    exact List.nodup_append.mpr ⟨h.nd, List.nodup_cons.mpr ⟨fun z => (nomatch z), List.nodup_nil⟩, fun x hx y hy e => ha (by rw [e, List.mem_singleton.mp hy] at hx; exact hx)⟩
  · rcases List.mem_append.mp hp with hp | hp
    · exact h.at' p hp
    · rw [List.mem_singleton.mp hp]; exact e
theorem Hv.sub {l2 : List (Addr × AO)} (h : Hv l H) (s : l2.Sublist l) : Hv l2 H := ⟨(s.map _).nodup h.nd, fun p hp => h.at' p (s.subset hp)⟩
theorem Hv.append {l2 : List (Addr × AO)} (h : Hv l H) (h2 : Hv l2 H) (d : ∀ a ∈ l.map (·.1), a ∉ l2.map (·.1)) : Hv (l ++ l2) H := by
  refine ⟨?_, fun p hp => (List.mem_append.mp hp).elim (h.at' p) (h2.at' p)⟩
  rw [List.map_append]
  exact List.nodup_append.mpr ⟨h.nd, h2.nd, fun x hx y hy e => d x hx (by rw [e]; exact hy)⟩
theorem Hv.new (h : Hv l H) (ha : H a = none) (o : AO) : Hv (l ++ [(a, o)]) (H.set a o) := (h.other (h.ne ha)).snoc (h.ne ha) (set_at _ _ _)
theorem Hv.upd (h : Hv l H) (i : Nat) (e : l[i]? = some (a, o)) (o' : AO) : Hv (l.set i (a, o')) (H.set a o') := by
  have hm : (l.set i (a, o')).map (·.1) = l.map (·.1) := by
    refine List.ext_getElem? fun j => ?_
    rw [List.getElem?_map, List.getElem?_map, List.getElem?_set]
    by_cases hj : i = j
    · subst hj; rw [if_pos rfl, if_pos (List.getElem?_eq_some_iff.mp e).1, e]; rfl
    · rw [if_neg hj]
  refine ⟨by rw [hm]; exact h.nd, fun p hp => ?_⟩
  obtain ⟨j, hj⟩ := List.mem_iff_getElem?.mp hp
  rw [List.getElem?_set] at hj
  by_cases hij : i = j
  · rw [if_pos hij, if_pos (List.getElem?_eq_some_iff.mp e).1] at hj
    cases hj; exact set_at _ _ _
  · rw [if_neg hij] at hj
    rw [set_ne _ _ ?_]
    · exact h.get j hj
    · intro hpa
      have h1 : (l.map (·.1))[i]? = some a := by rw [List.getElem?_map, e]; rfl
      have h2 : (l.map (·.1))[j]? = some a := by rw [List.getElem?_map, hj, ← hpa]; rfl
      exact hij ((List.getElem?_inj (List.getElem?_eq_some_iff.mp h1).1 h.nd).mp (h1.trans h2.symm))
theorem Hv.gr1 (h : Hv l H) (i : Nat) (e : l[i]? = some (a, o)) (g : Gr [a] H H') {o' : AO} (h' : H' a = some o') : Hv (l.set i (a, o')) H' :=
  (h.upd i e o').keep fun b _ o2 e2 => by
    by_cases hb : b = a
    · rw [hb, set_at] at e2; rw [hb, h', e2]
    · rw [set_ne _ _ hb] at e2; exact g b o2 (fun z => hb (List.mem_singleton.mp z)) e2
theorem Hv.gr {ms : List Addr} (h : Hv l H) (g : Gr ms H H') (d : ∀ b ∈ l.map (·.1), b ∉ ms) : Hv l H' := h.keep fun b hb o e => g b o (d b hb) e
end
structure Ini (H0 : AH) (dx : Addr) (l : List (Addr × AO)) (H : AH) : Prop where
  hv : Hv l H
  gr : Gr [dx] H0 H
theorem Ini.start {H : AH} {s dx : Addr} {c : Cl} {fs : List (Str × AV)} (hs : H s = some (.inst c dx)) (hd : H dx = some (.ns fs)) : Ini H dx [(s, .inst c dx), (dx, .ns fs)] H := by
  have e : Hv [(s, AO.inst c dx)] H := ⟨List.nodup_cons.mpr ⟨fun z => (nomatch z), List.nodup_nil⟩, fun p hp => by rw [List.mem_singleton.mp hp]; exact hs⟩
  exact ⟨e.snoc (fun z => by rw [List.mem_singleton.mp z, hs] at hd; cases hd) hd, Gr.refl _ _⟩
section
variable {H0 H : AH} {p dx : Addr} {c : Cl} {fs : List (Str × AV)} {l : List (Addr × AO)}
theorem Ini.set (I : Ini H0 dx l H) (h1 : l[1]? = some (dx, .ns fs)) (gs : List (Str × AV)) : Ini H0 dx (l.set 1 (dx, .ns gs)) (H.set dx (.ns gs)) := ⟨I.hv.upd 1 h1 _, I.gr.tr Gr.set⟩
theorem Ini.new (I : Ini H0 dx l H) {a : Addr} (ha : H a = none) (o : AO) : Ini H0 dx (l ++ [(a, o)]) (H.set a o) := ⟨I.hv.new ha o, I.gr.tr (Gr.new ha).up0⟩
theorem Ini.old (I : Ini H0 dx l H) (h1 : l[1]? = some (dx, .ns fs)) {a : Addr} (ha : H a = none) : H0 a = none := I.gr.back ha fun z => by
  rw [List.mem_singleton.mp z, I.hv.get 1 h1] at ha; cases ha
end
end
section
open PySem
set_option genInjectivity true in
inductive T where
  | v (n : Nat)
  | a (n : Nat)
  | i (z : Int)
  | u (t : T)
  | b (dot : Bool) (s t : T)
noncomputable def T.enc : T → Dt
  | .v n => .tup [.str "v", .int n]
  | .a n => .tup [.str "a", .int n]
  | .i z => .tup [.str "i", .int z]
  | .u t => .tup [.str "s", .int 12, .tup [t.enc]]
  | .b d s t => .tup [.str "s", .int (if d then 0 else 13), .tup [s.enc, t.enc]]
noncomputable def T.dep : T → Nat
  | .v _ => 0
  | .a _ => 0
  | .i _ => 0
  | .u t => t.dep + 1
  | .b _ s t => max s.dep t.dep + 1
noncomputable def T.lo (m : Nat) : T → Prop
  | .v n => n < m
  | .a _ => True
  | .i _ => True
  | .u t => t.lo m
  | .b _ s t => s.lo m ∧ t.lo m
noncomputable def T.mark : T → String
  | .v _ => "v"
  | .a _ => "a"
  | .i _ => "i"
  | .u _ => "s"
  | .b _ _ _ => "s"
noncomputable def T.fnum : T → Int
  | .v n => n
  | .a n => n
  | .i z => z
  | .u _ => 12
  | .b d _ _ => if d then 0 else 13
noncomputable def T.args : T → List T
  | .v _ => []
  | .a _ => []
  | .i _ => []
  | .u t => [t]
  | .b _ s t => [s, t]
noncomputable def encs (ts : List T) : List Dt := ts.map T.enc
noncomputable def T.rest : T → List Dt
  | .v _ => []
  | .a _ => []
  | .i _ => []
  | .u t => [.tup [t.enc]]
  | .b _ s t => [.tup [s.enc, t.enc]]
theorem n_va : ¬ "v" = "a" := by decide
theorem n_vi : ¬ "v" = "i" := by decide
theorem n_vs : ¬ "v" = "s" := by decide
theorem n_ai : ¬ "a" = "i" := by decide
theorem n_as : ¬ "a" = "s" := by decide
theorem n_is : ¬ "i" = "s" := by decide
theorem enc_eta (t : T) : t.enc = .tup (.str (Str.ofString t.mark) :: .int t.fnum :: t.rest) := by cases t <;> rfl
theorem fnum_ub {d : Bool} (h : (12 : Int) = if d then 0 else 13) : False := by cases d <;> cases h
theorem fnum_bb {d d' : Bool} (h : (if d then (0 : Int) else 13) = if d' then 0 else 13) : d = d' := by cases d <;> cases d' <;> first | rfl | cases h
theorem enc_parts {s t : T} (h : s.enc = t.enc) : s.mark = t.mark ∧ s.fnum = t.fnum ∧ s.rest = t.rest := by
  rw [enc_eta, enc_eta] at h
  injection h with h
  injection h with h1 h
  injection h with h2 h3
  injection h1 with h1
  injection h2 with h2
  exact ⟨str_inj h1, h2, h3⟩
theorem T.enc_inj {s t : T} (h : s.enc = t.enc) : s = t := by
  obtain ⟨hm, hf, hr⟩ := enc_parts h
  induction s generalizing t with
  | v n => cases t with
    | v m => exact congrArg T.v (Int.ofNat.inj hf)
    | a _ => exact absurd hm n_va
    | i _ => exact absurd hm n_vi
    | u _ => exact absurd hm n_vs
    | b _ _ _ => exact absurd hm n_vs
  | a n => cases t with
    | a m => exact congrArg T.a (Int.ofNat.inj hf)
    | v _ => exact absurd hm.symm n_va
    | i _ => exact absurd hm n_ai
    | u _ => exact absurd hm n_as
    | b _ _ _ => exact absurd hm n_as
  | i n => cases t with
    | i m => exact congrArg T.i hf
    | v _ => exact absurd hm.symm n_vi
    | a _ => exact absurd hm.symm n_ai
    | u _ => exact absurd hm n_is
    | b _ _ _ => exact absurd hm n_is
  | u s ih => cases t with
    | v _ => exact absurd hm.symm n_vs
    | a _ => exact absurd hm.symm n_as
    | i _ => exact absurd hm.symm n_is
    | b _ _ _ => exact (fnum_ub hf).elim
    | u t =>
      injection hr with hr
      injection hr with hr
      injection hr with hr
      obtain ⟨a, b, c⟩ := enc_parts hr
      rw [ih hr a b c]
  | b d s1 s2 ih1 ih2 => cases t with
    | v _ => exact absurd hm.symm n_vs
    | a _ => exact absurd hm.symm n_as
    | i _ => exact absurd hm.symm n_is
    | u _ => exact (fnum_ub hf.symm).elim
    | b d' t1 t2 =>
      injection hr with hr
      injection hr with hr
      injection hr with h1 hr
      injection hr with h2
      obtain ⟨a1, b1, c1⟩ := enc_parts h1
      obtain ⟨a2, b2, c2⟩ := enc_parts h2
      rw [ih1 h1 a1 b1 c1, ih2 h2 a2 b2 c2, fnum_bb hf]
theorem ok_v : PyData.strOk (Str.ofString "v") = true := by decide +kernel
theorem ok_a : PyData.strOk (Str.ofString "a") = true := by decide +kernel
theorem ok_i : PyData.strOk (Str.ofString "i") = true := by decide +kernel
theorem ok_s : PyData.strOk (Str.ofString "s") = true := by decide +kernel
theorem T.mark_ok (t : T) : PyData.strOk (Str.ofString t.mark) = true := by
  cases t with
  | v _ => exact ok_v
  | a _ => exact ok_a
  | i _ => exact ok_i
  | u _ => exact ok_s
  | b _ _ _ => exact ok_s
theorem and_t {a b : Bool} (h1 : a = true) (h2 : b = true) : (a && b) = true := by rw [h1, h2]; rfl
theorem T.enc_plain : ∀ t : T, t.enc.plain = true
  | .v n => and_t ok_v rfl
  | .a n => and_t ok_a rfl
  | .i n => and_t ok_i rfl
  | .u t => and_t ok_s (and_t rfl (and_t (and_t (T.enc_plain t) rfl) rfl))
  | .b d s t => and_t ok_s (and_t rfl (and_t (and_t (T.enc_plain s) (and_t (T.enc_plain t) rfl)) rfl))
theorem T.enc_depth (t : T) : t.enc.depth ≤ 2 * t.dep + 1 := by
  induction t with
  | v n => exact Nat.le_refl _
  | a n => exact Nat.le_refl _
  | i n => exact Nat.le_refl _
  | u t ih =>
    show max 0 (max 0 (max (max t.enc.depth 0 + 1) 0)) + 1 ≤ 2 * (t.dep + 1) + 1
    rw [Nat.zero_max, Nat.zero_max, Nat.max_zero, Nat.max_zero]
    exact Nat.succ_le_succ (Nat.succ_le_succ ih)
  | b d s t ih1 ih2 =>
    show max 0 (max 0 (max (max s.enc.depth (max t.enc.depth 0) + 1) 0)) + 1 ≤ 2 * (max s.dep t.dep + 1) + 1
    rw [Nat.zero_max, Nat.zero_max, Nat.max_zero, Nat.max_zero]
    refine Nat.succ_le_succ (Nat.succ_le_succ (Nat.max_le.mpr ⟨Nat.le_trans ih1 ?_, Nat.le_trans ih2 ?_⟩))
    · exact Nat.succ_le_succ (Nat.mul_le_mul_left 2 (Nat.le_max_left ..))
    · exact Nat.succ_le_succ (Nat.mul_le_mul_left 2 (Nat.le_max_right ..))
theorem le900 {n : Nat} (h : n ≤ 900) : 2 * n + 1 ≤ 2000 := Nat.le_trans (Nat.succ_le_succ (Nat.mul_le_mul_left 2 h)) (by decide)
theorem T.enc_ok {t : T} (h : t.dep ≤ 900) : t.enc.ok := ⟨t.enc_plain, Nat.le_trans t.enc_depth (le900 h)⟩
theorem encs_plains : ∀ ts : List T, Dt.plains (encs ts) = true
  | [] => rfl
  | t :: ts => and_t t.enc_plain (encs_plains ts)
theorem encs_depths : ∀ {ts : List T}, (∀ t ∈ ts, t.dep ≤ 900) → Dt.depths (encs ts) ≤ 2000
  | [], _ => Nat.zero_le _
  | t :: ts, h => Nat.max_le.mpr ⟨Nat.le_trans t.enc_depth (le900 (h t (.head _))), encs_depths fun u hu => h u (.tail _ hu)⟩
theorem encs_oks {ts : List T} (h : ∀ t ∈ ts, t.dep ≤ 900) : Dt.oks (encs ts) := ⟨encs_plains ts, encs_depths h⟩
theorem encs_len (ts : List T) : (encs ts).length = ts.length := List.length_map ..
theorem encs_app (a b : List T) : encs (a ++ b) = encs a ++ encs b := List.map_append
theorem encs_snoc (ts : List T) (t : T) : encs ts ++ [t.enc] = encs (ts ++ [t]) := (encs_app ts [t]).symm
theorem args_len (t : T) : t.args.length ≤ 2 := by
  cases t with
  | b d s t => exact Nat.le_refl 2
  | u t => exact Nat.le_succ 1
  | v _ => exact Nat.zero_le 2
  | a _ => exact Nat.zero_le 2
  | i _ => exact Nat.zero_le 2
theorem enc_s {t : T} (h : t.mark = "s") : t.enc = .tup [.str "s", .int t.fnum, .tup (encs t.args)] := by
  cases t with
  | u t => rfl
  | b d s t => rfl
  | v _ => exact absurd h n_vs
  | a _ => exact absurd h n_as
  | i _ => exact absurd h n_is
noncomputable def T.re (t : T) (us : List T) : T := match t with
  | .v n => .v n
  | .a n => .a n
  | .i z => .i z
  | .u _ => .u (us.headD (.v 0))
  | .b d _ _ => .b d (us.headD (.v 0)) (us.tail.headD (.v 0))
inductive Cmp (t : T) : Prop
  | u {s : T} (e : t = .u s) : Cmp t
  | b {d : Bool} {s1 s2 : T} (e : t = .b d s1 s2) : Cmp t
theorem T.cmp' {t : T} (h : t.mark = "s") : Cmp t := by
  cases t with
  | u t => exact .u rfl
  | b d s t => exact .b rfl
  | v _ => exact absurd h n_vs
  | a _ => exact absurd h n_as
  | i _ => exact absurd h n_is
theorem len1 {α : Type} {l : List α} (h : l.length = 1) : ∃ x, l = [x] := List.length_eq_one_iff.mp h
theorem len2 {α : Type} {l : List α} (h : l.length = 2) : ∃ x y, l = [x, y] := by
  cases l with
  | nil => cases h
  | cons x l =>
    obtain ⟨y, e⟩ := len1 (Nat.succ.inj h)
    exact ⟨x, y, by rw [e]⟩
theorem re_enc {t : T} (h : t.mark = "s") {us : List T} (hl : us.length = t.args.length) : (t.re us).enc = .tup [.str "s", .int t.fnum, .tup (encs us)] := by
  cases T.cmp' h with
  | u e =>
    subst e
    obtain ⟨x, e⟩ := len1 hl
    subst e; rfl
  | b e =>
    subst e
    obtain ⟨x, y, e⟩ := len2 hl
    subst e; rfl
theorem args_lo {t : T} {m : Nat} (h : t.lo m) : ∀ u ∈ t.args, u.lo m := by
  cases t with
  | u t => exact List.forall_mem_cons.mpr ⟨h, fun _ z => nomatch z⟩
  | b d s t => exact List.forall_mem_cons.mpr ⟨h.1, List.forall_mem_cons.mpr ⟨h.2, fun _ z => nomatch z⟩⟩
  | v _ => exact fun _ z => nomatch z
  | a _ => exact fun _ z => nomatch z
  | i _ => exact fun _ z => nomatch z
theorem args_dep0 {t : T} : ∀ u ∈ t.args, u.dep < t.dep := by
  cases t with
  | u t => exact List.forall_mem_cons.mpr ⟨Nat.lt_succ_self _, fun _ z => nomatch z⟩
  | b d s t => exact List.forall_mem_cons.mpr ⟨Nat.lt_succ_of_le (Nat.le_max_left ..), List.forall_mem_cons.mpr ⟨Nat.lt_succ_of_le (Nat.le_max_right ..), fun _ z => nomatch z⟩⟩
  | v _ => exact fun _ z => nomatch z
  | a _ => exact fun _ z => nomatch z
  | i _ => exact fun _ z => nomatch z
section
variable {C : Oracle} {r a b : List IS} {f : Frm} {H H1 : AH}
theorem putAt (f : Frm) (x : Str) (v : AV) : f.put x v x = some v := if_pos rfl
theorem putNe {f : Frm} {x y : Str} {w v : AV} (h : ¬ y = x) (q : f y = some v) : f.put x w y = some v := (if_neg h).trans q
theorem onlyAt {caps : List Str} {x : Str} {v : AV} (h : x ∈ caps) (q : f x = some v) : f.only caps x = some v := (if_pos h).trans q
theorem frS (x : Str) (v : AV) (xs : List Str) (vs : List AV) : frameOf (x :: xs) (v :: vs) = Frm.put (frameOf xs vs) x v := by
  funext y
  show (match y == x with | true => some v | false => (xs.zip vs).lookup y) = if y = x then some v else (xs.zip vs).lookup y
  by_cases h : y = x
  · rw [if_pos h, beq_iff_eq.mpr h]
  · rw [if_neg h, beq_eq_false_iff_ne.mpr h]
noncomputable abbrev Wp (C : Oracle) (r : List IS) (f : Frm) (Q : SPost) : AH → Prop := fun H => Wxs C r f H Q
noncomputable abbrev Ep (C : Oracle) (e : IE) (f : Frm) (Q : Post) : AH → Prop := fun H => We C e f H Q
noncomputable abbrev seqQ (C : Oracle) (r : List IS) (Q : SPost) : SPost := nextQ (fun f' H' => Wxs C r f' H' Q) Q
noncomputable abbrev asgQ (C : Oracle) (x : Str) (r : List IS) (f : Frm) (Q : SPost) : Post := fun v H => Wxs C r (f.put x v) H Q
noncomputable abbrev asgQ2 (C : Oracle) (x y : Str) (r : List IS) (f : Frm) (Q : SPost) : Post := putsQ [x, y] f fun f' H => Wxs C r f' H Q
noncomputable abbrev retE (f : Frm) (Q : SPost) : Post := fun v H => Q (.ret v) f H
noncomputable abbrev satQ2 (C : Oracle) (x : Str) (v : AV) (r : List IS) (f : Frm) (Q : SPost) : Post := fun u H => setAttr H u x v (Wp C r f Q)
noncomputable abbrev satQ (C : Oracle) (o : IE) (x : Str) (r : List IS) (f : Frm) (Q : SPost) : Post := fun v H => We C o f H (satQ2 C x v r f Q)
noncomputable abbrev ssQ3 (C : Oracle) (v u : AV) (r : List IS) (f : Frm) (Q : SPost) : Post := fun k H => setSub H u k v (Wp C r f Q)
noncomputable abbrev ssQ2 (C : Oracle) (i : IE) (v : AV) (r : List IS) (f : Frm) (Q : SPost) : Post := fun u H => We C i f H (ssQ3 C v u r f Q)
noncomputable abbrev ssQ (C : Oracle) (o i : IE) (r : List IS) (f : Frm) (Q : SPost) : Post := fun v H => We C o f H (ssQ2 C i v r f Q)
noncomputable abbrev subL (C : Oracle) (i : IE) (f : Frm) (Q : Post) : Post := fun v H => We C i f H (subQ v Q)
noncomputable abbrev cmpL (C : Oracle) (op : CmpOp) (e : IE) (f : Frm) (Q : Post) : Post := fun v H => We C e f H (cmpQ op v Q)
noncomputable abbrev binL (C : Oracle) (op : Operator) (e : IE) (f : Frm) (Q : Post) : Post := fun v H => We C e f H (binQ op v Q)
noncomputable abbrev consR (v : AV) (R : List AV → AH → Prop) : List AV → AH → Prop := fun vs H => R (v :: vs) H
noncomputable abbrev consL (C : Oracle) (es : List IE) (f : Frm) (R : List AV → AH → Prop) : Post := fun v H => Wes C es f H (consR v R)
noncomputable abbrev fnR (C : Oracle) (g : Fk) (Q : Post) : List AV → AH → Prop := fun vs H => C g vs H Q
noncomputable abbrev metR (C : Oracle) (g : Fk) (u : Addr) (Q : Post) : List AV → AH → Prop := fun vs H => C g (.r u :: vs) H Q
noncomputable abbrev mbR (u : Addr) (m : Str) (Q : Post) : List AV → AH → Prop := fun vs H => Meth u Q m vs H
noncomputable abbrev appQ (u : Addr) (Q : Post) : Post := fun v H => Meth u Q "append" [v] H
noncomputable abbrev addQ (u : Addr) (Q : Post) : Post := fun v H => Meth u Q "add" [v] H
noncomputable abbrev loopL (C : Oracle) (chk : AH → Prop) (tg : Tg) (b r : List IS) (vs : List AV) (f : Frm) (Q : SPost) : AH → Prop := fun H => ForL chk (fun f' H' Q' => Wxs C b f' H' Q') tg vs f H (seqQ C r Q)
noncomputable abbrev forQ (C : Oracle) (tg : Tg) (b r : List IS) (f : Frm) (Q : SPost) : Post := itemsQ fun _ ds chk H => loopL C chk tg b r (ds.map .d) f Q H
noncomputable abbrev rngR (C : Oracle) (x : Str) (b r : List IS) (f : Frm) (Q : SPost) : List AV → AH → Prop := rngQ fun vs H => loopL C (fun _ => True) (.one x) b r vs f Q H
section
variable {Q : SPost}
theorem sAsg {x : Str} {e : IE} (h : We C e f H (asgQ C x r f Q)) : Wxs C (.asg (.one x) e :: r) f H Q := h
theorem sAsg2 {x y : Str} {e : IE} (h : We C e f H (asgQ2 C x y r f Q)) : Wxs C (.asg (.many [x, y]) e :: r) f H Q := h
theorem asg2Of {x y : Str} {u w : Dt} (q : Wxs C r ((f.put x (.d u)).put y (.d w)) H Q) : asgQ2 C x y r f Q (.d (.tup [u, w])) H := .mk (.cons (.cons .nil)) q
theorem sExp {e : IE} (h : We C e f H (expQ (Wp C r f Q))) : Wxs C (.exp e :: r) f H Q := h
theorem sRet {e : IE} (h : We C e f H (retE f Q)) : Wxs C (.ret e :: r) f H Q := h
theorem sCnt (h : Q .cont f H) : Wxs C (.cnt :: r) f H Q := h
theorem sBrk (h : Q .brk f H) : Wxs C (.brk :: r) f H Q := h
theorem sNil (h : Q .next f H) : Wxs C [] f H Q := h
theorem sNilS (h : Wxs C r f H Q) : Wxs C [] f H (seqQ C r Q) := h
theorem sIf {t : IE} (h : We C t f H (ifQ (Wp C a f (seqQ C r Q)) (Wp C b f (seqQ C r Q)))) : Wxs C (.ife t a b :: r) f H Q := h
theorem sIf0 {t : IE} (h : We C t f H (ifQ (Wp C a f (seqQ C r Q)) (Wp C r f Q))) : Wxs C (.ife t a [] :: r) f H Q := h
theorem sAtt {o e : IE} {x : Str} (h : We C e f H (satQ C o x r f Q)) : Wxs C (.satt o x e :: r) f H Q := h
theorem sSub {o i e : IE} (h : We C e f H (ssQ C o i r f Q)) : Wxs C (.ssub o i e :: r) f H Q := h
theorem sAug {x : Str} {e : IE} {u : AV} (fx : f x = some u) (h : We C e f H (augQ x f (fun f' H => Wxs C r f' H Q) u)) : Wxs C (.aug x .Add e :: r) f H Q := ⟨rfl, u, fx, h⟩
theorem augOf {x : Str} {u w : Int} (q : Wxs C r (f.put x (.d (.int (u + w)))) H Q) : augQ x f (fun f' H => Wxs C r f' H Q) (.d (.int u)) (.d (.int w)) H := .int q
theorem sWhl {t : IE} (I : Nat → Frm → AH → Prop) (n : Nat) (h0 : I n f H)
    (step : ∀ n f H, I n f H → We C t f H (ifQ (Wp C b f (turnQ (lessI I n) (seqQ C r Q))) (Wp C r f Q))) : Wxs C (.whl t b :: r) f H Q := ⟨I, n, h0, step⟩
theorem sForE {tg : Tg} {e : IE} (h : We C e f H (forQ C tg b r f Q)) : Wxs C (.forE tg e b :: r) f H Q := h
theorem map_d {ds : List Dt} {i : Nat} {v : AV} (h : (ds.map AV.d)[i]? = some v) : ∃ d, v = .d d ∧ ds[i]? = some d := by
  rw [List.getElem?_map] at h
  obtain ⟨d, h1, h2⟩ := Option.map_eq_some_iff.mp h
  exact ⟨d, h2.symm, h1⟩
theorem loopOf {x : Str} {ds : List Dt} {chk : AH → Prop} (I : Nat → Frm → AH → Prop) (h0 : I 0 f H) (step : ∀ i f H1 d, ds[i]? = some d → I i f H1 → chk H1 ∧ Wxs C b (f.put x (.d d)) H1 (turnQ (I (i + 1)) (seqQ C r Q)))
    (fin : ∀ f H1, I ds.length f H1 → chk H1 ∧ Wxs C r f H1 Q) : loopL C chk (.one x) b r (ds.map .d) f Q H := .mk I h0 (fun i f H1 v hv hI => by
  obtain ⟨d, e, hd⟩ := map_d hv
  subst e
  obtain ⟨h1, h2⟩ := step i f H1 d hd hI
  exact ⟨h1, _, .one, h2⟩) fun f H1 hI => fin f H1 (List.length_map (as := ds) AV.d ▸ hI)
theorem forTup {x : Str} {ds : List Dt} (I : Nat → Frm → AH → Prop) (h0 : I 0 f H) (step : ∀ i f H1 d, ds[i]? = some d → I i f H1 → Wxs C b (f.put x (.d d)) H1 (turnQ (I (i + 1)) (seqQ C r Q)))
    (fin : ∀ f H1, I ds.length f H1 → Wxs C r f H1 Q) : forQ C (.one x) b r f Q (.d (.tup ds)) H := .mk .tup (loopOf I h0 (fun i f H1 d hd hI => ⟨trivial, step i f H1 d hd hI⟩) fun f H1 hI => ⟨trivial, fin f H1 hI⟩)
theorem forLst {x : Str} {u : Addr} {ds : List Dt} (h : H u = some (.lst ds)) (I : Nat → Frm → AH → Prop) (h0 : I 0 f H) (step : ∀ i f H1 d, ds[i]? = some d → I i f H1 → H1 u = some (.lst ds) ∧ Wxs C b (f.put x (.d d)) H1 (turnQ (I (i + 1)) (seqQ C r Q)))
    (fin : ∀ f H1, I ds.length f H1 → H1 u = some (.lst ds) ∧ Wxs C r f H1 Q) : forQ C (.one x) b r f Q (.r u) H := .mk (.lst h) (loopOf I h0 step fin)
theorem sForR {x : Str} {es : List IE} (h : Wes C es f H (rngR C x b r f Q)) : Wxs C (.forR x es b :: r) f H Q := h
theorem range_get {g : Nat → AV} {n i : Nat} {v : AV} (h : ((List.range n).map g)[i]? = some v) : i < n ∧ v = g i := by
  rw [List.getElem?_map] at h
  obtain ⟨j, hj, e⟩ := Option.map_eq_some_iff.mp h
  have hi := (List.getElem?_eq_some_iff.mp hj).1
  rw [List.length_range] at hi
  rw [List.getElem?_range hi] at hj
  cases hj
  exact ⟨hi, e.symm⟩
theorem range_len (g : Nat → AV) (n : Nat) : ((List.range n).map g).length = n := by rw [List.length_map, List.length_range]
theorem loopN {x : Str} {n : Nat} (g : Nat → Int) (I : Nat → Frm → AH → Prop) (h0 : I 0 f H) (step : ∀ i f H, i < n → I i f H → Wxs C b (f.put x (.d (.int (g i)))) H (turnQ (I (i + 1)) (seqQ C r Q)))
    (fin : ∀ f H, I n f H → Wxs C r f H Q) : loopL C (fun _ => True) (.one x) b r ((List.range n).map fun i => .d (.int (g i))) f Q H := .mk I h0 (fun i f H v hv hI => by
  obtain ⟨hi, e⟩ := range_get hv
  subst e
  exact ⟨trivial, _, .one, step i f H hi hI⟩) fun f H hI => ⟨trivial, fin f H (range_len _ n ▸ hI)⟩
theorem rngU {x : Str} {n : Nat} (hn : n < 1000000) (I : Nat → Frm → AH → Prop) (h0 : I 0 f H)
    (step : ∀ i f H, i < n → I i f H → Wxs C b (f.put x (.d (.int (i : Int)))) H (turnQ (I (i + 1)) (seqQ C r Q))) (fin : ∀ f H, I n f H → Wxs C r f H Q) : rngR C x b r f Q [.d (.int (n : Int))] H := .up hn (loopN _ I h0 step fin)
theorem rngD {x : Str} {n : Nat} (hn : n < 1000000) (I : Nat → Frm → AH → Prop) (h0 : I 0 f H)
    (step : ∀ i f H, i < n → I i f H → Wxs C b (f.put x (.d (.int ((n - 1 - i : Nat) : Int)))) H (turnQ (I (i + 1)) (seqQ C r Q))) (fin : ∀ f H, I n f H → Wxs C r f H Q) : rngR C x b r f Q [.d (.int ((n : Int) - 1)), .d (.int (-1)), .d (.int (-1))] H := .down hn (loopN _ I h0 (fun i f H hi hI => by
  rw [show (n : Int) - 1 - (i : Int) = ((n - 1 - i : Nat) : Int) by omega]; exact step i f H hi hI) fin)
theorem sDel {o : IE} {x : Str} {u : Addr} {ds : List Dt} {n : Nat} (ho : ∀ R : Post, R (.r u) H → We C o f H R) (hx : f x = some (.d (.int (n : Int)))) (h : H u = some (.lst ds)) (q : Wxs C r f (H.set u (.lst (ds.take n))) Q) : Wxs C (.del o (.loc x) :: r) f H Q :=
  (ho _ ⟨_, hx, .mk h q⟩ : We C o f H fun a H1 => We C (.loc x) f H1 (delQ (Wp C r f Q) a))
end
section
variable {P1 P2 : AH → Prop}
theorem ifB (z : Bool) (h1 : z = true → P1 H) (h2 : z = false → P2 H) : ifQ P1 P2 (.d (.bool z)) H := by
  cases z with
  | false => exact .f (h2 rfl)
  | true => exact .t (h1 rfl)
theorem ifT (h : P1 H) : ifQ P1 P2 (.d (.bool true)) H := .t h
theorem ifF (h : P2 H) : ifQ P1 P2 (.d (.bool false)) H := .f h
theorem ifD {p : Prop} [Decidable p] (h1 : p → P1 H) (h2 : ¬ p → P2 H) : ifQ P1 P2 (.d (.bool (decide p))) H := ifB _ (fun h => h1 (of_decide_eq_true h)) fun h => h2 (of_decide_eq_false h)
theorem ifDT {p : Prop} [Decidable p] (hp : p) (h : P1 H) : ifQ P1 P2 (.d (.bool (decide p))) H := by rw [decide_eq_true hp]; exact .t h
theorem ifDF {p : Prop} [Decidable p] (hp : ¬ p) (h : P2 H) : ifQ P1 P2 (.d (.bool (decide p))) H := by rw [decide_eq_false hp]; exact .f h
theorem ifND {p : Prop} [Decidable p] (h1 : ¬ p → P1 H) (h2 : p → P2 H) : ifQ P1 P2 (.d (.bool (!decide p))) H := by
  by_cases h : p
  · rw [decide_eq_true h]; exact .f (h2 h)
  · rw [decide_eq_false h]; exact .t (h1 h)
theorem ifN (z : Bool) (h1 : z = false → P1 H) (h2 : z = true → P2 H) : ifQ P1 P2 (.d (.bool (!z))) H := by
  cases z with
  | false => exact .t (h1 rfl)
  | true => exact .f (h2 rfl)
end
section
variable {Q : Post}
theorem eCon {d : Dt} (q : Q (.d d) H) : We C (.con d) f H Q := q
theorem eLoc {x : Str} {v : AV} (h : f x = some v) (q : Q v H) : We C (.loc x) f H Q := ⟨v, h, q⟩
theorem ofLoc {x : Str} {v : AV} (h : f x = some v) : ∀ R : Post, R v H → We C (.loc x) f H R := fun R q => ⟨v, h, q⟩
theorem ofCon {d : Dt} : ∀ R : Post, R (.d d) H → We C (.con d) f H R := fun _ q => q
theorem eSub {x i : IE} (h : We C x f H (subL C i f Q)) : We C (.sub x i) f H Q := h
theorem subOf {x y : AV} {z : Dt} (h : SubV H x y z) (q : Q (.d z) H) : subQ x Q y H := .mk h q
theorem subLst {u : Addr} {l : List Dt} {n : Nat} {d : Dt} (h : H u = some (.lst l)) (hd : l[n]? = some d) (q : Q (.d d) H) : subQ (.r u) Q (.d (.int (n : Int))) H := .mk (.lst h hd) q
theorem subDi {u : Addr} {l : List (Int × Dt)} {i : Int} {d : Dt} (h : H u = some (.di l)) (hd : lookK i l = some d) (q : Q (.d d) H) : subQ (.r u) Q (.d (.int i)) H := .mk (.di h hd) q
theorem subT0 {x : Dt} {l : List Dt} (q : Q (.d x) H) : subQ (.d (.tup (x :: l))) Q (.d (.int 0)) H := .mk (.tup (n := 0) (by decide) rfl) q
theorem subT1 {x y : Dt} {l : List Dt} (q : Q (.d y) H) : subQ (.d (.tup (x :: y :: l))) Q (.d (.int 1)) H := .mk (.tup (n := 1) (by decide) rfl) q
theorem ofAtt {x y : Str} {v w : AV} (h : f x = some v) (h2 : attV H y v w) : ∀ R : Post, R w H → We C (.att (.loc x) y) f H R := fun R q => ⟨v, h, .mk h2 q⟩
theorem eAttL {x y : Str} {v w : AV} (h : f x = some v) (h2 : attV H y v w) (q : Q w H) : We C (.att (.loc x) y) f H Q := ⟨v, h, .mk h2 q⟩
theorem eCmp {op : CmpOp} {x y : IE} (h : We C x f H (cmpL C op y f Q)) : We C (.cmp op x y) f H Q := h
theorem eBin {op : Operator} {x y : IE} (h : We C x f H (binL C op y f Q)) : We C (.bin op x y) f H Q := h
theorem bAdd {x y : Int} (q : Q (.d (.int (x + y))) H) : binQ .Add (.d (.int x)) Q (.d (.int y)) H := .mk .add q
theorem bSub {x y : Int} (q : Q (.d (.int (x - y))) H) : binQ .Sub (.d (.int x)) Q (.d (.int y)) H := .mk .sub q
theorem bMul {x y : Int} (hb : y.natAbs < 1000000000000) (q : Q (.d (.int (x * y))) H) : binQ .Mult (.d (.int x)) Q (.d (.int y)) H := .mk (.mul hb) q
theorem bMod {x y : Int} (h : 0 < y) (h2 : y < 1000000) (q : Q (.d (.int (x % y))) H) : binQ .Mod (.d (.int x)) Q (.d (.int y)) H := .mk (.mod h h2) q
theorem dctI (q : newO H (.di []) Q) : We C .dct f H Q := .inl q
theorem dctS (q : newO H (.ds []) Q) : We C .dct f H Q := .inr (.inl q)
theorem dctT (q : newO H (.dt []) Q) : We C .dct f H Q := .inr (.inr q)
theorem eNewset (q : newO H (.set []) Q) : We C .newset f H Q := q
theorem ninSet {u : Addr} {is : List Int} {i : Int} (h : H u = some (.set is)) (q : Q (.d (.bool (!is.contains i))) H) : cmpQ .NotIn (.d (.int i)) Q (.r u) H := .mk (.nin (.set h)) q
theorem inSet {u : Addr} {is : List Int} {i : Int} (h : H u = some (.set is)) (q : Q (.d (.bool (is.contains i))) H) : cmpQ .In (.d (.int i)) Q (.r u) H := .mk (.in_ (.set h)) q
theorem eNew {c : Cl} {es : List IE} (h : Wes C es f H (newR C c Q)) : We C (.new c es) f H Q := h
theorem newOf {x : Addr} (q : Q (.r x) H) : newQ x Q (.d .none) H := .mk q
theorem eListc {e : IE} (h : We C e f H (listcQ Q)) : We C (.listc e) f H Q := h
theorem eLen {e : IE} (h : We C e f H (lenQ Q)) : We C (.len e) f H Q := h
theorem lenDi {u : Addr} {l : List (Int × Dt)} (h : H u = some (.di l)) (q : Q (.d (.int l.length)) H) : lenQ Q (.r u) H := .di h q
theorem lenL {u : Addr} {ds : List Dt} (h : H u = some (.lst ds)) (q : Q (.d (.int ds.length)) H) : lenQ Q (.r u) H := .lst h q
theorem eTup {es : List IE} (h : Wes C es f H (tupQ Q)) : We C (.tup es) f H Q := h
theorem tup1 {x : Dt} (q : Q (.d (.tup [x])) H) : tupQ Q [.d x] H := .mk rfl q
theorem tup2 {x y : Dt} (q : Q (.d (.tup [x, y])) H) : tupQ Q [.d x, .d y] H := .mk rfl q
theorem tup3 {x y z : Dt} (q : Q (.d (.tup [x, y, z])) H) : tupQ Q [.d x, .d y, .d z] H := .mk rfl q
theorem eLst {es : List IE} (h : Wes C es f H (lstQ Q)) : We C (.lst es) f H Q := h
theorem lst0 (q : newO H (.lst []) Q) : lstQ Q [] H := .mk rfl q
theorem lst1 {x : Dt} (q : newO H (.lst [x]) Q) : lstQ Q [.d x] H := .mk rfl q
theorem lst2 {x y : Dt} (q : newO H (.lst [x, y]) Q) : lstQ Q [.d x, .d y] H := .mk rfl q
theorem lst4 {x y z w : Dt} (q : newO H (.lst [x, y, z, w]) Q) : lstQ Q [.d x, .d y, .d z, .d w] H := .mk rfl q
theorem eNot {e : IE} (h : We C e f H (notQ Q)) : We C (.notE e) f H Q := h
theorem notB {z : Bool} (q : Q (.d (.bool (!z))) H) : notQ Q (.d (.bool z)) H := .mk q
theorem notT (q : Q (.d (.bool false)) H) : notQ Q (.d (.bool true)) H := .mk q
theorem notF (q : Q (.d (.bool true)) H) : notQ Q (.d (.bool false)) H := .mk q
theorem eNeg1 {i : Int} (q : Q (.d (.int (-i))) H) : We C (.neg (.con (.int i))) f H Q := .mk q
theorem eAnd {x y : IE} (h : We C x f H (ifQ (Ep C y f Q) (Q (.d (.bool false))))) : We C (.andE x y) f H Q := h
theorem eOr {x y : IE} (h : We C x f H (ifQ (Q (.d (.bool true))) (Ep C y f Q))) : We C (.orE x y) f H Q := h
theorem eIte {t x y : IE} (h : We C t f H (ifQ (Ep C x f Q) (Ep C y f Q))) : We C (.ite t x y) f H Q := h
theorem eFn {g : Str} {es : List IE} (h : Wes C es f H (fnR C (.fn g) Q)) : We C (.fn g es) f H Q := h
theorem eMet {cl : Cl} {o : IE} {m : Str} {es : List IE} {u : Addr} {dx : Addr} {fs : List (Str × AV)} (ho : ∀ R : Post, R (.r u) H → We C o f H R) (h1 : H u = some (.inst cl dx)) (h2 : H dx = some (.ns fs)) (h3 : lookF m fs = none)
    (h : Wes C es f H (metR C (.me cl m) u Q)) : We C (.met cl o m es) f H Q := (ho _ (.mk h1 h2 h3 h) : We C o f H (metQ cl m fun a H1 => Wes C es f H1 fun vs H2 => C (.me cl m) (.r a :: vs) H2 Q))
theorem eMb {o : IE} {m : Str} {es : List IE} {u : Addr} {x : AO} (ho : ∀ R : Post, R (.r u) H → We C o f H R) (h1 : H u = some x) (h2 : MbOk x m) (h : Wes C es f H (mbR u m Q)) : We C (.mb o m es) f H Q := (ho _ (.mk h1 h2 h) : We C o f H (mbQ m fun a H1 => Wes C es f H1 (Meth a Q m)))
theorem eApp {o e : IE} {u : Addr} {ds : List Dt} (ho : ∀ R : Post, R (.r u) H → We C o f H R) (h1 : H u = some (.lst ds)) (h : We C e f H (appQ u Q)) : We C (.mb o "append" [e]) f H Q := eMb ho h1 .app h
theorem eExt {o e : IE} {u : Addr} {ds : List Dt} (ho : ∀ R : Post, R (.r u) H → We C o f H R) (h1 : H u = some (.lst ds)) (h : We C e f H (fun v H => Meth u Q "extend" [v] H)) : We C (.mb o "extend" [e]) f H Q := eMb ho h1 .ext h
theorem appOf {u : Addr} {ds : List Dt} {x : Dt} (h : H u = some (.lst ds)) (hl : ds.length < lim) (q : Q (.d .none) (H.set u (.lst (ds ++ [x])))) : appQ u Q (.d x) H := .app h hl q
theorem eAppL {y : Str} {e : IE} {u : Addr} {ds : List Dt} (hf : f y = some (.r u)) (h1 : H u = some (.lst ds)) (h : We C e f H (appQ u Q)) : We C (.mb (.loc y) "append" [e]) f H Q := eApp (fun R q => eLoc hf q) h1 h
theorem eAppA {y z : Str} {e : IE} {v : AV} {u : Addr} {ds : List Dt} (hf : f y = some v) (ha : attV H z v (.r u)) (h1 : H u = some (.lst ds)) (h : We C e f H (appQ u Q)) : We C (.mb (.att (.loc y) z) "append" [e]) f H Q := eApp (ofAtt hf ha) h1 h
theorem eSlcLn {y z : Str} {u : Addr} {ds : List Dt} {n : Nat} (hy : f y = some (.r u)) (h : H u = some (.lst ds)) (hz : f z = some (.d (.int (n : Int)))) (q : newO H (.lst (ds.drop n)) Q) : We C (.slcL (.loc y) (.loc z)) f H Q :=
  (⟨_, hy, _, hz, .mk (.lst h) q⟩ : We C (.loc y) f H fun x H1 => We C (.loc z) f H1 (slcLQ x Q))
theorem eSlcH {a hi : IE} {u : Addr} {ds : List Dt} {n : Nat} (ha : ∀ R : Post, R (.r u) H → We C a f H R) (h : H u = some (.lst ds)) (hh : ∀ R : Post, R (.d (.int (n : Int))) H → We C hi f H R) (q : newO H (.lst (ds.take n)) Q) : We C (.slcH a hi) f H Q :=
  (ha _ (hh _ (.mk (.lst h) q)) : We C a f H fun x H1 => We C hi f H1 (slcHQ x Q))
theorem eSlcF {y : Str} {is : List Int} {n : Nat} (hy : f y = some (.f is)) (q : newO H (.lst ((is.map Dt.int).take n)) Q) : We C (.slcH (.loc y) (.con (.int (n : Int)))) f H Q :=
  (⟨_, hy, .mk .fro q⟩ : We C (.loc y) f H fun x H1 => We C (.con (.int (n : Int))) f H1 (slcHQ x Q))
theorem eGetS {o : IE} {es : List IE} {u : Addr} {l : List (Str × Int)} (ho : ∀ R : Post, R (.r u) H → We C o f H R) (h1 : H u = some (.ds l)) (h : Wes C es f H (mbR u "get" Q)) : We C (.mb o "get" es) f H Q := eMb ho h1 .getS h
theorem eGetT {o : IE} {es : List IE} {u : Addr} {l : List (List Int × Int)} (ho : ∀ R : Post, R (.r u) H → We C o f H R) (h1 : H u = some (.dt l)) (h : Wes C es f H (mbR u "get" Q)) : We C (.mb o "get" es) f H Q := eMb ho h1 .getT h
theorem getS {u : Addr} {l : List (Str × Int)} {k : Str} {v : Int} (h : H u = some (.ds l)) (q : Q (.d (.int ((lookK k l).getD v))) H) : mbR u "get" Q [.d (.str k), .d (.int v)] H := .getS h q
theorem getT {u : Addr} {l : List (List Int × Int)} {j k : Int} {v : Int} (h : H u = some (.dt l)) (q : Q (.d (.int ((lookK [j, k] l).getD v))) H) : mbR u "get" Q [.d (.tup [.int j, .int k]), .d (.int v)] H := .getT h q
theorem eAdd {o e : IE} {u : Addr} {is : List Int} (ho : ∀ R : Post, R (.r u) H → We C o f H R) (h1 : H u = some (.set is)) (h : We C e f H (addQ u Q)) : We C (.mb o "add" [e]) f H Q := eMb ho h1 .add h
theorem addOf {u : Addr} {is : List Int} {i : Int} (h : H u = some (.set is)) (hl : is.length < 4000) (q : Q (.d .none) (H.set u (.set (if is.contains i then is else is ++ [i])))) : addQ u Q (.d (.int i)) H := .add h hl q
theorem ePopC {o : IE} {u : Addr} {ds : List Dt} {d : Dt} (ho : ∀ R : Post, R (.r u) H → We C o f H R) (h1 : H u = some (.lst (ds ++ [d]))) (q : Q (.d d) (H.set u (.lst ds))) : We C (.mb o "pop" []) f H Q := eMb ho h1 .pop (.pop h1 q)
theorem eIsb {x : Str} {z : Bool} (h : f x = some (.d (.bool z))) (q : Q (.d (.bool true)) H) : We C (.isbool (.loc x)) f H Q := (⟨_, h, .mk q⟩ : We C (.loc x) f H (isbQ Q))
section
variable {R : List AV → AH → Prop} {e : IE} {es : List IE}
theorem esNil (q : R [] H) : Wes C [] f H R := q
theorem esCons (h : We C e f H (consL C es f R)) : Wes C (e :: es) f H R := h
end
theorem ofSub {a i : IE} {u k : AV} {d : Dt} (ha : ∀ R : Post, R u H → We C a f H R) (hi : ∀ R : Post, R k H → We C i f H R) (h : SubV H u k d) : ∀ R : Post, R (.d d) H → We C (.sub a i) f H R := fun R q => eSub (ha _ (hi _ (.mk h q)))
theorem eChnLe {x y z : IE} {a b d : Int} (hx : ∀ R : Post, R (.d (.int a)) H → We C x f H R) (hy : ∀ R : Post, R (.d (.int b)) H → We C y f H R) (hz : ∀ R : Post, R (.d (.int d)) H → We C z f H R) (h1 : a ≤ b) (h2 : b ≤ d) (q : Q (.d (.bool true)) H) : We C (.chn x .LtE y .LtE z) f H Q :=
  (hx _ (hy _ (.t (decide_eq_true h1 ▸ .le) (hz _ (.mk (decide_eq_true h2 ▸ .le) q)))) : We C x f H fun x H1 => We C y f H1 (chnQ .LtE x (fun y H2 => We C z f H2 (cmpQ .LtE y Q)) (Q (.d (.bool false)))))
theorem eLcR {e : IE} {x : Str} {caps : List Str} (k : Nat) (hk : k ≤ 1000) (I : Nat → List Dt → AH → Prop) (h0 : I 0 [] H) (step : ∀ i acc H', i < k → I i acc H' → We C e ((f.only caps).put x (.d (.int (i : Int)))) H' (Acc1 I i acc))
    (fin : ∀ acc H', I k acc H' → newO H' (.lst acc) Q) : We C (.lcR e x (.con (.int (k : Int))) caps) f H Q :=
  (.mk hk (.mk I h0 (fun i acc H' v hv hI => by
    obtain ⟨hi, e⟩ := range_get hv
    subst e
    exact ⟨trivial, _, .one, step i acc H' hi hI⟩) fun acc H' hI => ⟨trivial, fin acc H' (range_len _ k ▸ hI)⟩) :
    cntQ (fun n H1 => LcL (fun _ => True) (fun f' H' Q' => We C e f' H' Q') (.one x) (f.only caps) ((List.range n).map fun (i : Nat) => AV.d (.int (i : Int))) H1 fun ds H2 => newO H2 (.lst ds) Q) (.d (.int (k : Int))) H)
noncomputable abbrev lcQ (C : Oracle) (e : IE) (tg : Tg) (f : Frm) (Q : Post) : Post := itemsQ fun v ds chk H1 => TgOk tg v ∧ LcL chk (fun f' H' Q' => We C e f' H' Q') tg f (ds.map .d) H1 fun es H2 => newO H2 (.lst es) Q
theorem eLcE {e s : IE} {tg : Tg} {caps : List Str} (h : We C s f H (lcQ C e tg (f.only caps) Q)) : We C (.lcE e tg s caps) f H Q := h
theorem lcTup {e : IE} {x : Str} {ds : List Dt} (I : Nat → List Dt → AH → Prop) (h0 : I 0 [] H) (step : ∀ i acc H' d, ds[i]? = some d → I i acc H' → We C e (f.put x (.d d)) H' (Acc1 I i acc))
    (fin : ∀ acc H', I ds.length acc H' → newO H' (.lst acc) Q) : lcQ C e (.one x) f Q (.d (.tup ds)) H := .mk .tup ⟨.one, .mk I h0 (fun i acc H' v hv hI => by
    obtain ⟨d, e, hd⟩ := map_d hv
    subst e
    exact ⟨trivial, _, .one, step i acc H' d hd hI⟩) fun acc H' hI => ⟨trivial, fin acc H' (List.length_map (as := ds) AV.d ▸ hI)⟩⟩
theorem lcLst {e : IE} {tg : Tg} {u : Addr} {ds : List Dt} (ht : TgOk tg (.r u)) (h : H u = some (.lst ds)) (I : Nat → List Dt → AH → Prop) (h0 : I 0 [] H) (step : ∀ i acc H' d, ds[i]? = some d → I i acc H' → H' u = some (.lst ds) ∧ ∃ f', BindT tg (.d d) f f' ∧ We C e f' H' (Acc1 I i acc))
    (fin : ∀ acc H', I ds.length acc H' → H' u = some (.lst ds) ∧ newO H' (.lst acc) Q) : lcQ C e tg f Q (.r u) H := .mk (.lst h) ⟨ht, .mk I h0 (fun i acc H' v hv hI => by
    obtain ⟨d, e, hd⟩ := map_d hv
    subst e
    exact step i acc H' d hd hI) fun acc H' hI => fin acc H' (List.length_map (as := ds) AV.d ▸ hI)⟩
theorem eTuplQ {e : IE} (h : We C e f H (tuplQ Q)) : We C (.tupl e) f H Q := h
theorem tuplNew {ds : List Dt} (q : ∀ a, H a = none → Q (.d (.tup ds)) (H.set a (.lst ds))) : newO H (.lst ds) (tuplQ Q) := fun a ha => .mk (.lst (set_at _ _ _)) (q a ha)
end
end
section
variable {H : AH} {Q : Post}
theorem decI {p q : Prop} [Decidable p] (h : p ↔ q) : decide p = true ↔ q := decide_eq_true_iff.trans h
theorem int_ok (a : Int) : (Dt.int a).ok := ⟨rfl, Nat.zero_le _⟩
theorem eqI (a b : Int) : EqV H (.d (.int a)) (.d (.int b)) (decide (a = b)) := .dt (int_ok a) (int_ok b) (decI ⟨congrArg Dt.int, fun h => by injection h⟩)
theorem cEqI {a b : Int} (q : Q (.d (.bool (decide (a = b)))) H) : cmpQ .Eq (.d (.int a)) Q (.d (.int b)) H := .mk (.eq (eqI a b)) q
theorem cNeI {a b : Int} (q : Q (.d (.bool (!decide (a = b)))) H) : cmpQ .NotEq (.d (.int a)) Q (.d (.int b)) H := .mk (.ne (eqI a b)) q
theorem cLtI {a b : Int} (q : Q (.d (.bool (decide (a < b)))) H) : cmpQ .Lt (.d (.int a)) Q (.d (.int b)) H := .mk .lt q
theorem cGtI {a b : Int} (q : Q (.d (.bool (decide (b < a)))) H) : cmpQ .Gt (.d (.int a)) Q (.d (.int b)) H := .mk .gt q
theorem cGeI {a b : Int} (q : Q (.d (.bool (decide (b ≤ a)))) H) : cmpQ .GtE (.d (.int a)) Q (.d (.int b)) H := .mk .ge q
theorem cEqL {a b : Addr} {xs : List Dt} (ha : H a = some (.lst xs)) (hb : H b = some (.lst xs)) (ho : Dt.oks xs) (q : Q (.d (.bool true)) H) : cmpQ .Eq (.r a) Q (.r b) H := .mk (.eq (.lst ha hb ho ho ⟨fun _ => rfl, fun _ => rfl⟩)) q
theorem cNeL {a b : Addr} {xs : List Dt} (ha : H a = some (.lst xs)) (hb : H b = some (.lst xs)) (ho : Dt.oks xs) (q : Q (.d (.bool false)) H) : cmpQ .NotEq (.r a) Q (.r b) H := .mk (.ne (.lst (z := true) ha hb ho ho ⟨fun _ => rfl, fun _ => rfl⟩)) q
theorem cNeNil {P1 P2 : AH → Prop} {a b : Addr} {xs : List Dt} (ha : H a = some (.lst xs)) (hb : H b = some (.lst [])) (ho : Dt.oks xs) (h1 : xs ≠ [] → P1 H) (h2 : xs = [] → P2 H) : cmpQ .NotEq (.r a) (ifQ P1 P2) (.r b) H := by
  cases xs with
  | nil => exact .mk (.ne (.lst (z := true) ha hb ho oks_nil ⟨fun _ => rfl, fun _ => rfl⟩)) (.f (h2 rfl))
  | cons x xs => exact .mk (.ne (.lst (z := false) ha hb ho oks_nil ⟨fun h => (nomatch h), fun h => (nomatch h)⟩)) (.t (h1 fun h => nomatch h))
theorem cNeBB {a : Bool} (q : Q (.d (.bool false)) H) : cmpQ .NotEq (.d (.bool a)) Q (.d (.bool a)) H := by
  cases a with
  | false => exact .mk (.ne .bool) q
  | true => exact .mk (.ne .bool) q
theorem pair_ok (a b : Int) : (Dt.tup [.int a, .int b]).ok := ⟨rfl, Nat.le_add_left 1 1999⟩
theorem cNePP {a b : Int} (q : Q (.d (.bool false)) H) : cmpQ .NotEq (.d (.tup [.int a, .int b])) Q (.d (.tup [.int a, .int b])) H := .mk (.ne (.dt (z := true) (pair_ok a b) (pair_ok a b) ⟨fun _ => rfl, fun _ => rfl⟩)) q
theorem cIsNN (q : Q (.d (.bool false)) H) : cmpQ .IsNot (.d .none) Q (.d .none) H := .mk (.isn .none) q
theorem cIsNR {a : Addr} (q : Q (.d (.bool true)) H) : cmpQ .IsNot (.r a) Q (.d .none) H := .mk (.isn .ref) q
theorem cIsN (q : Q (.d (.bool true)) H) : cmpQ .Is (.d .none) Q (.d .none) H := .mk (.is .none) q
theorem cIsR {a : Addr} (q : Q (.d (.bool false)) H) : cmpQ .Is (.r a) Q (.d .none) H := .mk (.is .ref) q
theorem inDi {u : Addr} {l : List (Int × Dt)} {i : Int} {P1 P2 : AH → Prop} (h : H u = some (.di l)) (q1 : ∀ d, lookK i l = some d → P1 H) (q2 : lookK i l = none → P2 H) : cmpQ .In (.d (.int i)) (ifQ P1 P2) (.r u) H :=
  .mk (.in_ (.di h)) (by
    cases e : lookK i l with
    | none => exact .f (q2 e)
    | some d => exact .t (q1 d e))
theorem ninDi {u : Addr} {l : List (Int × Dt)} {i : Int} {P1 P2 : AH → Prop} (h : H u = some (.di l)) (q1 : lookK i l = none → P1 H) (q2 : ∀ d, lookK i l = some d → P2 H) : cmpQ .NotIn (.d (.int i)) (ifQ P1 P2) (.r u) H :=
  .mk (.nin (.di h)) (by
    cases e : lookK i l with
    | none => exact .t (q1 e)
    | some d => exact .f (q2 d e))
theorem str_ok {a : String} (h : PyData.strOk (Str.ofString a) = true) : (Dt.str (Str.ofString a)).ok := ⟨h, Nat.zero_le _⟩
theorem cMark {t : T} {b : String} (hb : PyData.strOk (Str.ofString b) = true) (q : Q (.d (.bool (decide (t.mark = b)))) H) : cmpQ .Eq (.d (.str (Str.ofString t.mark))) Q (.d (.str (Str.ofString b))) H := .mk (.eq (.dt (str_ok t.mark_ok) (str_ok hb) (decI ⟨fun h => by rw [h], fun h => by injection h with h; exact str_inj h⟩))) q
theorem cMarkN {t : T} {b : String} (hb : PyData.strOk (Str.ofString b) = true) (q : Q (.d (.bool (!decide (t.mark = b)))) H) : cmpQ .NotEq (.d (.str (Str.ofString t.mark))) Q (.d (.str (Str.ofString b))) H := .mk (.ne (.dt (str_ok t.mark_ok) (str_ok hb) (decI ⟨fun h => by rw [h], fun h => by injection h with h; exact str_inj h⟩))) q
theorem cIsT {t : T} (q : Q (.d (.bool false)) H) : cmpQ .Is (.d t.enc) Q (.d .none) H := by
  rw [enc_eta]; exact .mk (.is .tup) q
theorem cEqT {P1 P2 : AH → Prop} {s t : T} (hs : s.dep ≤ 900) (ht : t.dep ≤ 900) (h1 : s = t → P1 H) (h2 : s ≠ t → P2 H) : cmpQ .Eq (.d s.enc) (ifQ P1 P2) (.d t.enc) H := by
  by_cases e : s = t
  · exact .mk (.eq (.dt (T.enc_ok hs) (T.enc_ok ht) (z := true) ⟨fun _ => by rw [e], fun _ => rfl⟩)) (.t (h1 e))
  · exact .mk (.eq (.dt (T.enc_ok hs) (T.enc_ok ht) (z := false) ⟨fun h => (nomatch h), fun h => absurd (T.enc_inj h) e⟩)) (.f (h2 e))
end
section
variable {C : Oracle} {f : Frm} {H : AH} {Q : Post} {y : Str}
theorem sub_mark (H : AH) (t : T) : SubV H (.d t.enc) (.d (.int 0)) (.str (Str.ofString t.mark)) := by rw [enc_eta]; exact .tup (n := 0) (by decide) rfl
theorem sub_fnum (H : AH) (t : T) : SubV H (.d t.enc) (.d (.int 1)) (.int t.fnum) := by rw [enc_eta]; exact .tup (n := 1) (by decide) rfl
theorem sub2_args (H : AH) {t : T} (h : t.mark = "s") : SubV H (.d t.enc) (.d (.int 2)) (.tup (encs t.args)) := by rw [enc_s h]; exact .tup (n := 2) (by decide) rfl
theorem eMark {t : T} (hf : f y = some (.d t.enc)) (q : Q (.d (.str (Str.ofString t.mark))) H) : We C (.sub (.loc y) (.con (.int 0))) f H Q := eSub (eLoc hf (eCon (.mk (sub_mark H t) q)))
theorem eFnum {t : T} (hf : f y = some (.d t.enc)) (q : Q (.d (.int t.fnum)) H) : We C (.sub (.loc y) (.con (.int 1))) f H Q := eSub (eLoc hf (eCon (.mk (sub_fnum H t) q)))
theorem eArgs {t : T} (hf : f y = some (.d t.enc)) (hm : t.mark = "s") (q : Q (.d (.tup (encs t.args))) H) : We C (.sub (.loc y) (.con (.int 2))) f H Q := eSub (eLoc hf (eCon (.mk (sub2_args H hm) q)))
end
section
variable {H : AH} {u : Addr} {P : AH → Prop}
theorem ssDs {l : List (Str × Int)} {k : Str} {v : Int} (h : H u = some (.ds l)) (hl : l.length < lim) (q : P (H.set u (.ds (putK k v l)))) : setSub H (.r u) (.d (.str k)) (.d (.int v)) P := .ds h hl q
theorem ssDt {l : List (List Int × Int)} {j k v : Int} (h : H u = some (.dt l)) (hl : l.length < lim) (q : P (H.set u (.dt (putK [j, k] v l)))) : setSub H (.r u) (.d (.tup [.int j, .int k])) (.d (.int v)) P := .dt h hl q
theorem ssDi {l : List (Int × Dt)} {k : Int} {d : Dt} (h : H u = some (.di l)) (hl : l.length < lim) (q : P (H.set u (.di (putK k d l)))) : setSub H (.r u) (.d (.int k)) (.d d) P := .di h hl q
end
theorem attI {H : AH} {p dx : Addr} {c : Cl} {fs : List (Str × AV)} {z : Str} {v : AV} (hp : H p = some (.inst c dx)) (hd : H dx = some (.ns fs)) (hl : lookF z fs = some v) : attV H z (.r p) v := .mk hp hd hl
theorem satOf {H : AH} {p dx : Addr} {c : Cl} {fs gs : List (Str × AV)} {z : Str} {v : AV} {P : AH → Prop} (hp : H p = some (.inst c dx)) (hd : H dx = some (.ns fs)) (hl : fs.length < 100) (hg : putF z v fs = gs) (q : P (H.set dx (.ns gs))) : setAttr H (.r p) z v P := .mk hp hd hl (by rw [hg]; exact q)
theorem Ini.sat {H0 H : AH} {p dx : Addr} {c : Cl} {fs : List (Str × AV)} {l : List (Addr × AO)} {z : Str} {v : AV} {P : AH → Prop} (I : Ini H0 dx l H) (h0 : l[0]? = some (p, .inst c dx)) (h1 : l[1]? = some (dx, .ns fs)) (hl : fs.length < 100)
    (q : ∀ H', Ini H0 dx (l.set 1 (dx, .ns (putF z v fs))) H' → P H') : setAttr H (.r p) z v P := .mk (I.hv.get 0 h0) (I.hv.get 1 h1) hl (q _ (I.set h1 _))
theorem Ini.newF {C : Oracle} {r : List IS} {f : Frm} {Q : SPost} {H0 H : AH} {p dx : Addr} {c : Cl} {fs : List (Str × AV)} {l : List (Addr × AO)} {y z : Str} {o : AO} (I : Ini H0 dx l H) (hf : f y = some (.r p)) (h0 : l[0]? = some (p, .inst c dx)) (h1 : l[1]? = some (dx, .ns fs)) (hl : fs.length < 100)
    (q : ∀ a H', H0 a = none → Ini H0 dx ((l ++ [(a, o)]).set 1 (dx, .ns (putF z (.r a) fs))) H' → Wxs C r f H' Q) : newO H o (satQ C (.loc y) z r f Q) := fun a ha =>
  eLoc hf ((I.new ha o).sat (by rw [List.getElem?_append_left (List.getElem?_eq_some_iff.mp h0).1]; exact h0) (by rw [List.getElem?_append_left (List.getElem?_eq_some_iff.mp h1).1]; exact h1) hl (q a · (I.old h1 ha)))
section
variable {C : Nat → Oracle} {k : Nat} {g : Fk} {irs : List IS} {H : AH} {Q : Post}
theorem intro1 (O : Orc C) {x : Str} {v : AV} (d : defs g = some ⟨[x], [], irs⟩) (h : ∀ f : Frm, f x = some v → Wxs (C k) irs f H (retQ Q)) : C (k + 1) g [v] H Q :=
  O.intro d rfl (h _ ((congrFun (frS x v [] []) x).trans (putAt _ _ _)))
theorem intro2 (O : Orc C) {x y : Str} {v w : AV} (d : defs g = some ⟨[x, y], [], irs⟩) (h1 : ¬ y = x) (h : ∀ f : Frm, f x = some v → f y = some w → Wxs (C k) irs f H (retQ Q)) : C (k + 1) g [v, w] H Q := by
  refine O.intro d rfl ?_
  show Wxs _ _ (frameOf [x, y] [v, w]) _ _
  rw [frS, frS]
  exact h _ (putAt _ _ _) (putNe h1 (putAt _ _ _))
theorem intro3 (O : Orc C) {x y z : Str} {v w u : AV} (d : defs g = some ⟨[x, y, z], [], irs⟩) (h1 : ¬ y = x) (h2 : ¬ z = x) (h3 : ¬ z = y) (h : ∀ f : Frm, f x = some v → f y = some w → f z = some u → Wxs (C k) irs f H (retQ Q)) : C (k + 1) g [v, w, u] H Q := by
  refine O.intro d rfl ?_
  show Wxs _ _ (frameOf [x, y, z] [v, w, u]) _ _
  rw [frS, frS, frS]
  exact h _ (putAt _ _ _) (putNe h1 (putAt _ _ _)) (putNe h2 (putNe h3 (putAt _ _ _)))
theorem intro3d (O : Orc C) {x y z : Str} {v w : AV} {d0 : Dt} (d : defs g = some ⟨[x, y, z], [d0], irs⟩) (h1 : ¬ y = x) (h2 : ¬ z = x) (h3 : ¬ z = y) (h : ∀ f : Frm, f x = some v → f y = some w → f z = some (.d d0) → Wxs (C k) irs f H (retQ Q)) : C (k + 1) g [v, w] H Q := by
  refine O.intro d rfl ?_
  show Wxs _ _ (frameOf [x, y, z] [v, w, .d d0]) _ _
  rw [frS, frS, frS]
  exact h _ (putAt _ _ _) (putNe h1 (putAt _ _ _)) (putNe h2 (putNe h3 (putAt _ _ _)))
theorem intro4 (O : Orc C) {x y z t : Str} {v w u s : AV} (d : defs g = some ⟨[x, y, z, t], [], irs⟩) (h1 : ¬ y = x) (h2 : ¬ z = x) (h3 : ¬ z = y) (h4 : ¬ t = x) (h5 : ¬ t = y) (h6 : ¬ t = z) (h : ∀ f : Frm, f x = some v → f y = some w → f z = some u → f t = some s → Wxs (C k) irs f H (retQ Q)) : C (k + 1) g [v, w, u, s] H Q := by
  refine O.intro d rfl ?_
  show Wxs _ _ (frameOf [x, y, z, t] [v, w, u, s]) _ _
  rw [frS, frS, frS, frS]
  exact h _ (putAt _ _ _) (putNe h1 (putAt _ _ _)) (putNe h2 (putNe h3 (putAt _ _ _))) (putNe h4 (putNe h5 (putNe h6 (putAt _ _ _))))
end
end
local macro_rules | `(tactic| k_caught0) => `(tactic| with_reducible first | assumption | exact putAt _ _ _ | (refine putNe ?_ ?_; with_unfolding_all decide; k_caught0) | (refine onlyAt ?_ ?_; with_unfolding_all decide; k_caught0))
local macro_rules | `(tactic| tb_rel) => `(tactic| with_reducible first | (refine eLoc (v := ?_) ?_ ?_; rotate_left; k_caught0) | refine eCon ?_ | refine esCons ?_ | refine esNil ?_ | refine eCmp ?_ | refine cEqI ?_ | (refine eMark (t := ?_) ?_ ?_; rotate_left; k_caught0) | (refine eFnum (t := ?_) ?_ ?_; rotate_left; k_caught0) | (refine eArgs (t := ?_) ?_ ?_ ?_; rotate_left; k_caught0; assumption) | refine eSub ?_ | refine cLtI ?_ | refine cLeI ?_ | refine cGtI ?_ | refine cGeI ?_ | refine cNeI ?_ | refine cIsT ?_ | refine cMark ok_v ?_ | refine cMark ok_a ?_ | refine cMark ok_i ?_ | refine cMark ok_s ?_ | (refine eAttL (v := ?_) (w := ?_) ?_ ?_ ?_; rotate_left 2; k_caught0; assumption) | refine eBin ?_ | refine bAdd ?_ | refine bSub ?_ | refine bMod (by decide) (by decide) ?_ | refine eLen ?_ | (refine lenDi (l := ?_) ?_ ?_; rotate_left; assumption) | (refine lenL (ds := ?_) ?_ ?_; rotate_left; assumption) | (refine eAppL (u := ?_) (ds := ?_) ?_ ?_ ?_; rotate_left 2; k_caught0; assumption) | (refine eAppA (v := ?_) (u := ?_) (ds := ?_) ?_ ?_ ?_ ?_; rotate_left 3; k_caught0; assumption; assumption) | refine eListc ?_ | refine eTup ?_ | refine tup2 ?_ | refine tup3 ?_ | refine tup1 ?_ | refine eFn ?_ | refine eAnd ?_ | refine eOr ?_ | refine eNot ?_ | refine notT ?_ | refine notF ?_ | refine notB ?_ | refine eIte ?_ | refine eNeg1 ?_ | refine eNewset ?_ | refine eLst ?_ | refine lst1 ?_ | refine lst0 ?_ | refine lst2 ?_ | refine lst4 ?_ | (refine eIsb (z := ?_) ?_ ?_; rotate_left; k_caught0) | refine cNeBB ?_ | refine cIsNN ?_ | refine cIsNR ?_ | refine cIsN ?_ | refine cIsR ?_ | refine cNePP ?_ | refine eTuplQ ?_ | refine eLcE ?_)
local macro_rules | `(tactic| kts_caught) => `(tactic| with_reducible first | refine sAsg ?_ | refine sForR ?_ | refine sForE ?_ | refine sIf0 ?_ | refine sRet ?_ | refine sExp ?_ | refine expQ.none ?_ | refine newOf ?_ | refine expQ.int ?_ | refine sSub ?_ | refine sAtt ?_ | refine sCnt ?_ | refine sBrk ?_ | refine sRetN ?_ | refine sAsg2 ?_ | refine asg2Of ?_ | (refine sAug (u := ?_) ?_ ?_; rotate_left; k_caught0) | refine augOf ?_ | refine ifT ?_ | refine ifF ?_ | refine sPas ?_ | refine sNilS ?_ | refine sIf ?_ | refine sNil ?_)
local macro_rules | `(tactic| tb_start) => `(tactic| repeat (first | tb_rel | kts_caught))
section
open PySem PySem.W PyProof.Rows
theorem def_law_next : defs (.fn "_law_next") = some ⟨ps_fn_law_next, [], ir_fn_law_next⟩ := by kernel_rfl
theorem def_law_term : defs (.fn "_law_term") = some ⟨ps_fn_law_term, [], ir_fn_law_term⟩ := by kernel_rfl
theorem def_law_turned : defs (.fn "_law_turned") = some ⟨ps_fn_law_turned, [], ir_fn_law_turned⟩ := by kernel_rfl
theorem def_law_equation : defs (.fn "_law_equation") = some ⟨ps_fn_law_equation, [], ir_fn_law_equation⟩ := by kernel_rfl
theorem def_law_row : defs (.fn "_law_row") = some ⟨ps_fn_law_row, [], ir_fn_law_row⟩ := by kernel_rfl
noncomputable def T.side (t : T) : Prop := (t.lo 5 ∧ t.dep ≤ 3) ∨ ∃ n, n < 7 ∧ t = .v n
section
variable {C : Nat → Oracle} {k : Nat} {H : AH} {Q : Post}
theorem next_spec (O : Orc C) {r : Addr} {ns : List Int} (h : H r = some (.lst (iL ns))) (q : ∀ H', Gr [r] H H' → H' r = some (.lst (iL ns.dropLast)) → Q (.d (.int (popV ns))) H') : C (k+1) (.fn "_law_next") [.r r] H Q := by
  refine intro1 O def_law_next fun f f1 => ?_
  tb_start
  intro a ha
  have hr := keep_new (o' := .lst []) h ha
  refine cNeNil hr (set_at _ _ _) (oks_iL ns) (fun hn => ?_) fun e => ?_
  · obtain ⟨ms, n, e⟩ : ∃ ms n, ns = ms ++ [n] := by
      rcases List.eq_nil_or_concat ns with e | ⟨ms, n, e⟩
      · rw [e] at hn; exact absurd rfl hn
      · exact ⟨ms, n, by rw [e, List.concat_eq_append]⟩
    subst e
    rw [← iL_snoc] at hr
    have e1 : popV (ms ++ [n]) = n := by unfold popV; rw [List.getLastD_eq_getLast?, List.getLast?_concat]; rfl
    rw [e1, List.dropLast_concat] at q
    exact ePopC (ofLoc f1) hr (q _ ((Gr.new ha).up0.tr Gr.set) (set_at _ _ _))
  · have e : ns = [] := List.map_eq_nil_iff.mp e
    subst e
    tb_start
    exact q _ (Gr.new ha).up0 hr
theorem subMod {a : Addr} {l : List Int} {x m : Int} (h : H a = some (.lst (iL l))) (hm : (l.length : Int) = m) (h0 : 0 < m) (q : ∀ z ∈ l, Q (.d (.int z)) H) : subQ (.r a) Q (.d (.int (x % m))) H := by
  obtain ⟨n, hn⟩ := Int.eq_ofNat_of_zero_le (Int.emod_nonneg x (Int.ne_of_gt h0))
  have hl := Int.emod_lt_of_pos x h0
  rw [hn] at hl ⊢
  have hlt : n < l.length := Int.ofNat_lt.mp (hm ▸ hl)
  exact subLst h (d := .int l[n]) (by show (l.map Dt.int)[n]? = _; rw [List.getElem?_map, List.getElem?_eq_getElem hlt]; rfl) (q _ (List.getElem_mem hlt))
theorem modN {x m : Int} (h : 0 < m) : ∃ n : Nat, x % m = (n : Int) ∧ (n : Int) < m := by
  obtain ⟨n, hn⟩ := Int.eq_ofNat_of_zero_le (Int.emod_nonneg x (Int.ne_of_gt h))
  exact ⟨n, hn, hn ▸ Int.emod_lt_of_pos x h⟩
noncomputable abbrev termS : List IS := [
  .ife (.cmp .Eq (.loc "kind") (.con (.int 1))) [
    .ret (.tup [(.con (.str "a")), (.sub (.lst [(.con (.int 0)), (.con (.int 4))]) (.bin .Mod (.fn "_law_next" [(.loc "row")]) (.con (.int 2))))])] [],
  .ife (.cmp .Eq (.loc "kind") (.con (.int 2))) [
    .ret (.tup [(.con (.str "i")), (.sub (.lst [(.con (.int 0)), (.con (.int 1)), (.neg (.con (.int 1))), (.bin .Pow (.con (.int 10)) (.con (.int 30)))]) (.bin .Mod (.fn "_law_next" [(.loc "row")]) (.con (.int 4))))])] [],
  .ife (.cmp .Eq (.loc "kind") (.con (.int 4))) [
    .ret (.tup [(.con (.str "s")), (.con (.int 12)), (.tup [(.fn "_law_term" [(.loc "row"), (.bin .Sub (.loc "deep") (.con (.int 1)))])])])] [],
  .ife (.cmp .Gt (.loc "kind") (.con (.int 4))) [
    .asg (.one "first") (.fn "_law_term" [(.loc "row"), (.bin .Sub (.loc "deep") (.con (.int 1)))]),
    .ret (.tup [(.con (.str "s")), (.ite (.cmp .Eq (.loc "kind") (.con (.int 7))) (.con (.int 0)) (.con (.int 13))), (.tup [(.loc "first"), (.fn "_law_term" [(.loc "row"), (.bin .Sub (.loc "deep") (.con (.int 1)))])])])] [],
  .ret (.tup [(.con (.str "v")), (.bin .Mod (.fn "_law_next" [(.loc "row")]) (.con (.int 5)))])]
theorem term_rest (O : Orc C) {deep : Nat} {r : Addr} {ns : List Int} {kd : Int} {f : Frm} (h : H r = some (.lst (iL ns))) (hk : deep = 0 → kd < 3) (f1 : f "row" = some (.r r)) (f2 : f "deep" = some (.d (.int (deep : Int)))) (f3 : f "kind" = some (.d (.int kd)))
    (rcs : deep ≠ 0 → ∀ {ns : List Int} {H : AH} {Q : Post}, H r = some (.lst (iL ns)) → (∀ (t : T) ns' H', Gr [r] H H' → H' r = some (.lst (iL ns')) → t.dep + 1 ≤ deep → t.lo 5 → Q (.d t.enc) H') → C (k + 1) (.fn "_law_term") [.r r, .d (.int ((deep : Int) - 1))] H Q)
    (q : ∀ (t : T) ns' H', Gr [r] H H' → H' r = some (.lst (iL ns')) → t.dep ≤ deep → t.lo 5 → Q (.d t.enc) H') : Wxs (C (k + 1)) termS f H (retQ Q) := by
  tb_start
  refine ifD (fun z => ?_) (fun z => ?_)
  · tb_start
    intro a ha
    have h2 := keep_new (o' := .lst (iL [0, 4])) h ha
    tb_start
    refine next_spec O h2 fun H3 g3 h3 => ?_
    tb_start
    refine subMod (l := [0, 4]) (g3 a _ (fun z => ne_new h ha (List.mem_singleton.mp z).symm) (set_at _ _ _)) rfl (by decide) fun z hz => ?_
    tb_start
    have g := (Gr.new ha).up0.tr g3
    rcases List.mem_cons.mp hz with e | hz
    · subst e; exact q (.a 0) _ H3 g h3 (Nat.zero_le _) trivial
    · rw [List.mem_singleton.mp hz]; exact q (.a 4) _ H3 g h3 (Nat.zero_le _) trivial
  tb_start
  refine ifD (fun z => ?_) (fun z => ?_)
  · tb_start
    refine .mk .pow ?_
    tb_start
    intro a ha
    have h2 := keep_new (o' := .lst (iL [0, 1, -1, 10 ^ 30])) h ha
    tb_start
    refine next_spec O h2 fun H3 g3 h3 => ?_
    tb_start
    refine subMod (l := [0, 1, -1, 10 ^ 30]) (g3 a _ (fun z => ne_new h ha (List.mem_singleton.mp z).symm) (set_at _ _ _)) rfl (by decide) fun z hz => ?_
    tb_start
    exact q (.i z) _ H3 ((Gr.new ha).up0.tr g3) h3 (Nat.zero_le _) trivial
  tb_start
  refine ifD (fun z => ?_) (fun z => ?_)
  · tb_start
    refine rcs (fun e => absurd (z ▸ hk e) (by decide)) h fun t ns' H3 g3 h3 hd hl => ?_
    tb_start
    exact q (.u t) _ H3 g3 h3 hd hl
  tb_start
  refine ifD (fun z => ?_) (fun z => ?_)
  · have hd0 : deep ≠ 0 := fun e => absurd (Int.lt_trans z (hk e)) (by decide)
    tb_start
    refine rcs hd0 h fun t ns' H3 g3 h3 hd hl => ?_
    tb_start
    have fin : ∀ d : Bool, Wes (C (k + 1)) [(.tup [(.loc "first"), (.fn "_law_term" [(.loc "row"), (.bin .Sub (.loc "deep") (.con (.int 1)))])])] (f.put "first" (.d t.enc)) H3 (consR (.d (.int (if d then 0 else 13))) (consR (.d (.str "s")) (tupQ (retE (f.put "first" (.d t.enc)) (retQ Q))))) := fun d => by
      tb_start
      refine rcs hd0 h3 fun t2 ns2 H4 g4 h4 hd2 hl2 => ?_
      tb_start
      exact q (.b d t t2) _ H4 (g3.tr g4) h4 (Nat.succ_le_of_lt (Nat.max_lt.mpr ⟨hd, hd2⟩)) ⟨hl, hl2⟩
    refine ifD (fun z => ?_) (fun z => ?_)
    · exact fin true
    · exact fin false
  tb_start
  refine next_spec O h fun H3 g3 h3 => ?_
  tb_start
  obtain ⟨n, hn, hl⟩ := modN (x := popV ns) (m := 5) (by decide)
  rw [hn]
  exact q (.v n) _ H3 g3 h3 (Nat.zero_le _) (Int.ofNat_lt.mp hl)
theorem term_body (O : Orc C) {deep : Nat} {r : Addr} {ns : List Int} (h : H r = some (.lst (iL ns)))
    (rcs : deep ≠ 0 → ∀ {ns : List Int} {H : AH} {Q : Post}, H r = some (.lst (iL ns)) → (∀ (t : T) ns' H', Gr [r] H H' → H' r = some (.lst (iL ns')) → t.dep + 1 ≤ deep → t.lo 5 → Q (.d t.enc) H') → C (k + 1) (.fn "_law_term") [.r r, .d (.int ((deep : Int) - 1))] H Q)
    (q : ∀ (t : T) ns' H', Gr [r] H H' → H' r = some (.lst (iL ns')) → t.dep ≤ deep → t.lo 5 → Q (.d t.enc) H') : C (k + 2) (.fn "_law_term") [.r r, .d (.int deep)] H Q := by
  refine intro2 O def_law_term (by decide) fun f f1 f2 => ?_
  tb_start
  refine next_spec O h fun H1 g1 h1 => ?_
  have rest : ∀ kd : Int, (deep = 0 → kd < 3) → Wxs (C (k + 1)) termS (f.put "kind" (.d (.int kd))) H1 (retQ Q) := fun kd hk =>
    term_rest O h1 hk (by k_caught0) (by k_caught0) (by k_caught0) rcs fun t ns' H' g => q t ns' H' (g1.tr g)
  tb_start
  refine ifD (fun z => ?_) (fun z => ?_)
  · exact eCon (bMod (by decide) (by decide) (rest _ fun e => absurd z (by rw [e]; decide)))
  · exact eCon (bMod (by decide) (by decide) (rest _ fun e => Int.emod_lt_of_pos _ (by decide)))
theorem term_spec (O : Orc C) (deep k : Nat) {r : Addr} {ns : List Int} {H : AH} {Q : Post} (h : H r = some (.lst (iL ns)))
    (q : ∀ (t : T) ns' H', Gr [r] H H' → H' r = some (.lst (iL ns')) → t.dep ≤ deep → t.lo 5 → Q (.d t.enc) H') : C (k + deep + 2) (.fn "_law_term") [.r r, .d (.int deep)] H Q := by
  induction deep generalizing ns H Q with
  | zero => exact term_body O h (fun e => absurd rfl e) q
  | succ d ih =>
    refine term_body O h (fun _ ns H Q h q => ?_) q
    rw [show ((d + 1 : Nat) : Int) - 1 = (d : Int) from Int.add_sub_cancel (d : Int) 1]
    exact ih h fun t ns' H' g h' hd => q t ns' H' g h' (Nat.succ_le_succ hd)
inductive TurI (r : Addr) (D : Nat) (H : AH) (i : Nat) (acc : List Dt) (H' : AH) : Prop
  | mk {us : List T} {ns : List Int} (e : acc = encs us) (hl : us.length = i) (g : Gr [r] H H') (h : H' r = some (.lst (iL ns))) (ok : ∀ u ∈ us, u.dep ≤ D ∧ u.lo 5) : TurI r D H i acc H'
theorem re_dep {t : T} (hm : t.mark = "s") {us : List T} (hl : us.length = t.args.length) {D : Nat} (ok : ∀ u ∈ us, u.dep ≤ D ∧ u.lo 5) : (t.re us).dep ≤ D + 1 ∧ (t.re us).lo 5 := by
  cases T.cmp' hm with
  | u e =>
    subst e
    obtain ⟨x, e⟩ := len1 hl
    subst e
    exact ⟨Nat.succ_le_succ (ok x (.head _)).1, (ok x (.head _)).2⟩
  | b e =>
    subst e
    obtain ⟨x, y, e⟩ := len2 hl
    subst e
    exact ⟨Nat.succ_le_succ (Nat.max_le.mpr ⟨(ok x (.head _)).1, (ok y (.tail _ (.head _))).1⟩), (ok x (.head _)).2, (ok y (.tail _ (.head _))).2⟩
theorem mem_args {t : T} {i : Nat} {d : Dt} (h : (encs t.args)[i]? = some d) : ∃ u, u ∈ t.args ∧ d = u.enc := by
  rw [show (encs t.args)[i]? = (t.args[i]?).map T.enc from List.getElem?_map ..] at h
  obtain ⟨u, hu, e⟩ := Option.map_eq_some_iff.mp h
  exact ⟨u, List.mem_of_getElem? hu, e.symm⟩
theorem forall_snoc {α : Type} {P : α → Prop} {l : List α} {a : α} (h : ∀ u ∈ l, P u) (ha : P a) : ∀ u ∈ l ++ [a], P u := fun u hu => (List.mem_append.mp hu).elim (h u) fun hu => by rw [List.mem_singleton.mp hu]; exact ha
set_option tactic.hygienic true in
theorem turned_body (O : Orc C) {D : Nat} {t : T} {r : Addr} {ns : List Int} (hD : t.dep ≤ D) (hlo : t.lo 5) (h : H r = some (.lst (iL ns)))
    (rcs : ∀ u ∈ t.args, ∀ {ns : List Int} {H : AH} {Q : Post}, H r = some (.lst (iL ns)) → (∀ (t' : T) ns' H', Gr [r] H H' → H' r = some (.lst (iL ns')) → t'.dep ≤ D → t'.lo 5 → Q (.d t'.enc) H') → C (k + 3) (.fn "_law_turned") [.r r, .d u.enc] H Q)
    (q : ∀ (t' : T) ns' H', Gr [r] H H' → H' r = some (.lst (iL ns')) → t'.dep ≤ D + 1 → t'.lo 5 → Q (.d t'.enc) H') : C (k + 4) (.fn "_law_turned") [.r r, .d t.enc] H Q := by
  refine intro2 O def_law_turned (by decide) fun f f1 f2 => ?_
  tb_start
  refine next_spec O h fun H1 g1 h1 => ?_
  tb_start
  refine ifD (fun z => ?_) (fun z => ?_)
  · tb_start
    exact term_spec O 1 k h1 fun t' ns' H3 g3 h3 hd hl => q t' _ H3 (g1.tr g3) h3 (Nat.le_trans hd (Nat.le_add_left 1 D)) hl
  tb_start
  refine ifD (fun z => ?_) (fun z => ?_)
  · tb_start
    refine next_spec O h1 fun H3 g3 h3 => ?_
    tb_start
    obtain ⟨n, hn, hl⟩ := modN (x := popV ns.dropLast) (m := 5) (by decide)
    rw [hn]
    exact q (.v n) _ H3 (g1.tr g3) h3 (Nat.zero_le _) (Int.ofNat_lt.mp hl)
  tb_start
  refine ifD (fun hm => ?_) (fun hm => ?_)
  · tb_start
    refine lcTup (TurI r D H1) (.mk (us := []) rfl rfl (Gr.refl _ _) h1 fun _ z => nomatch z) (fun i acc H' d hd I => ?_) fun acc H' I => ?_
    · obtain ⟨e, hl, g, h', ok⟩ := I
      subst e
      have hi := (List.getElem?_eq_some_iff.mp hd).1
      rw [encs_len] at hi
      obtain ⟨u, hu, e⟩ := mem_args hd
      subst e
      tb_start
      exact rcs u hu h' fun t' ns' H2 g2 h2 hd2 hl2 => .mk (by rw [encs_len, hl]; exact Nat.lt_trans hi (Nat.lt_of_le_of_lt (args_len t) (by decide))) (.mk (encs_snoc _ _) (by rw [List.length_append, hl]; rfl) (g.tr g2) h2 (forall_snoc ok ⟨hd2, hl2⟩))
    · obtain ⟨e, hl, g, h', ok⟩ := I
      rename_i us ns2
      subst e
      rw [encs_len] at hl
      refine tuplNew fun a ha => ?_
      tb_start
      rw [← re_enc hm hl]
      exact q _ ns2 _ ((g1.tr g).tr (Gr.new ha).up0) (keep_new h' ha) (re_dep hm hl ok).1 (re_dep hm hl ok).2
  · tb_start
    exact q t _ H1 g1 h1 (Nat.le_succ_of_le hD) hlo
theorem turned_spec (O : Orc C) (D k : Nat) {t : T} {r : Addr} {ns : List Int} {H : AH} {Q : Post} (hD : t.dep ≤ D) (hlo : t.lo 5) (h : H r = some (.lst (iL ns)))
    (q : ∀ (t' : T) ns' H', Gr [r] H H' → H' r = some (.lst (iL ns')) → t'.dep ≤ D + 1 → t'.lo 5 → Q (.d t'.enc) H') : C (k + D + 4) (.fn "_law_turned") [.r r, .d t.enc] H Q := by
  induction D generalizing t ns H Q with
  | zero => exact turned_body O hD hlo h (fun u hu => absurd (Nat.lt_of_lt_of_le (args_dep0 u hu) hD) (Nat.not_lt_zero _)) q
  | succ D ih => exact turned_body O hD hlo h (fun u hu ns H Q h q => ih (Nat.le_of_lt_succ (Nat.lt_of_lt_of_le (args_dep0 u hu) hD)) (args_lo hlo u hu) h q) q
noncomputable abbrev eqnS : List IS := [.ret (.ite (.cmp .Eq (.bin .Mod (.fn "_law_next" [(.loc "row")]) (.con (.int 2))) (.con (.int 0))) (.tup [(.loc "one"), (.loc "two")]) (.tup [(.loc "two"), (.loc "one")]))]
theorem equation_spec (O : Orc C) (k : Nat) {r : Addr} {ns : List Int} (h : H r = some (.lst (iL ns)))
    (q : ∀ (s t : T) ns' H', Gr [r] H H' → H' r = some (.lst (iL ns')) → s.side → t.side → Q (.d (.tup [s.enc, t.enc])) H') : C (k + 10) (.fn "_law_equation") [.r r] H Q := by
  refine intro1 O def_law_equation fun f f1 => ?_
  have fin : ∀ (f : Frm) {H1 : AH} {ns1 : List Int} {s t : T}, f "row" = some (.r r) → f "one" = some (.d s.enc) → f "two" = some (.d t.enc) → Gr [r] H H1 → H1 r = some (.lst (iL ns1)) → s.side → t.side → Wxs (C (k + 9)) [] f H1 (seqQ (C (k + 9)) eqnS (retQ Q)) := by
    intro f H1 ns1 s t f1 f2 f3 g1 h1 hs ht
    tb_start
    refine next_spec O h1 fun H2 g2 h2 => ?_
    tb_start
    refine ifD (fun z => ?_) (fun z => ?_)
    · tb_start
      exact q s t _ H2 (g1.tr g2) h2 hs ht
    · tb_start
      exact q t s _ H2 (g1.tr g2) h2 ht hs
  have le3 : ∀ {n : Nat}, n ≤ 2 → n ≤ 3 := fun h => Nat.le_succ_of_le h
  tb_start
  refine next_spec O h fun H1 g1 h1 => ?_
  tb_start
  refine ifD (fun z => ?_) (fun z => ?_)
  · tb_start
    refine term_spec O 2 (k + 5) h1 fun s ns2 H2 g2 h2 hd hl => ?_
    tb_start
    refine turned_spec O 2 (k + 3) hd hl h2 fun t ns3 H3 g3 h3 hd2 hl2 => ?_
    exact fin _ (by k_caught0) (by k_caught0) (by k_caught0) ((g1.tr g2).tr g3) h3 (.inl ⟨hl, le3 hd⟩) (.inl ⟨hl2, hd2⟩)
  tb_start
  refine ifD (fun z => ?_) (fun z => ?_)
  · tb_start
    refine term_spec O 2 (k + 5) h1 fun s ns2 H2 g2 h2 hd hl => ?_
    tb_start
    refine term_spec O 2 (k + 5) h2 fun t ns3 H3 g3 h3 hd2 hl2 => ?_
    exact fin _ (by k_caught0) (by k_caught0) (by k_caught0) ((g1.tr g2).tr g3) h3 (.inl ⟨hl, le3 hd⟩) (.inl ⟨hl2, le3 hd2⟩)
  have v5 : ∀ x : Int, ∃ n : Nat, n < 2 ∧ (5 : Int) + x % 2 = ((5 + n : Nat) : Int) := fun x => by
    obtain ⟨n, hn, hl⟩ := modN (x := x) (m := 2) (by decide)
    exact ⟨n, Int.ofNat_lt.mp hl, by rw [hn]; rfl⟩
  tb_start
  refine ifD (fun z => ?_) (fun z => ?_)
  · tb_start
    refine next_spec O h1 fun H2 g2 h2 => ?_
    tb_start
    obtain ⟨n, hn, e⟩ := v5 (popV ns.dropLast)
    rw [e]
    refine term_spec O 2 (k + 5) h2 fun t ns3 H3 g3 h3 hd2 hl2 => ?_
    exact fin _ (s := .v (5 + n)) (by k_caught0) (putNe (by decide) (putAt _ _ _)) (by k_caught0) ((g1.tr g2).tr g3) h3 (.inr ⟨_, Nat.add_lt_add_left hn 5, rfl⟩) (.inl ⟨hl2, le3 hd2⟩)
  · tb_start
    refine next_spec O h1 fun H2 g2 h2 => ?_
    tb_start
    obtain ⟨n, hn, e⟩ := v5 (popV ns.dropLast)
    rw [e]
    refine next_spec O h2 fun H3 g3 h3 => ?_
    obtain ⟨m, hm, hl⟩ := modN (x := popV ns.dropLast.dropLast) (m := 7) (by decide)
    refine eCon (bMod (by decide) (by decide) ?_)
    rw [hm]
    refine esNil (tup2 ?_)
    exact fin _ (s := .v (5 + n)) (t := .v m) (by k_caught0) (putNe (by decide) (putAt _ _ _)) (putAt _ _ _) ((g1.tr g2).tr g3) h3 (.inr ⟨_, Nat.add_lt_add_left hn 5, rfl⟩) (.inr ⟨m, Int.ofNat_lt.mp hl, rfl⟩)
end
inductive RowI (r : Addr) (H2 : AH) (m : Nat) (f : Frm) (H' : AH) : Prop
  | mk {ms : List Int} (f1 : f "row" = some (.r r)) (g : Gr [r] H2 H') (h : H' r = some (.lst (iL ms))) (hl : ms.length ≤ m) : RowI r H2 m f H'
inductive TrnI (r : Addr) (H2 : AH) (m : Nat) (f : Frm) (H' : AH) : Prop
  | mk {y : Int} (f2 : f "number" = some (.d (.int y))) (I : RowI r H2 m f H') : TrnI r H2 m f H'
section
variable {C : Nat → Oracle} {k : Nat} {H : AH} {Q : Post}
theorem row_turn {f : Frm} {r : Addr} {H2 : AH} {m : Nat} {rest : List IS} {Q : SPost} (I : TrnI r H2 m f H) (hm : m < lim)
    (q : ∀ f' H', TrnI r H2 (m + 1) f' H' → Wxs (C k) rest f' H' Q) :
    Wxs (C k) (.exp (.mb (.loc "row") "append" [(.bin .Mod (.loc "number") (.con (.int 1013)))]) :: .asg (.one "number") (.bin .FloorDiv (.loc "number") (.con (.int 1013))) :: rest) f H Q := by
  obtain ⟨f2, f1, g, h, hl⟩ := I
  tb_start
  refine appOf h (by rw [iL_len]; exact Nat.lt_of_le_of_lt hl hm) ?_
  rw [iL_snoc]
  tb_start
  refine .mk (.div (by decide) (by decide)) ?_
  exact q _ _ (.mk (putAt _ _ _) (.mk (by k_caught0) (g.tr (gr_mem (.head _))) (set_at _ _ _) (by rw [List.length_append]; exact Nat.succ_le_succ hl)))
theorem row_spec (O : Orc C) (k : Nat) {ns : List Int} (q : ∀ (r : Addr) (ms : List Int) H', Gr [] H H' → H' r = some (.lst (iL ms)) → Q (.r r) H') : C (k + 1) (.fn "_law_row") [.f ns] H Q := by
  refine intro1 O def_law_row fun f f1 => ?_
  tb_start
  intro r hr
  tb_start
  refine eSlcF (n := 40) (by k_caught0) fun a ha => ?_
  have hra : a ∉ [r] := fun z => ne_new (set_at H r (.lst [])) ha (List.mem_singleton.mp z).symm
  have h0 : ((H.set r (.lst [])).set a (.lst ((ns.map Dt.int).take 40))) r = some (.lst (iL [])) := keep_new (set_at _ _ _) ha
  have g0 : Gr [] H ((H.set r (.lst [])).set a (.lst ((ns.map Dt.int).take 40))) := (Gr.new hr).tr (Gr.new ha)
  have ha2 := set_at (H.set r (.lst [])) a (.lst ((ns.map Dt.int).take 40))
  generalize (H.set r (.lst [])).set a (.lst ((ns.map Dt.int).take 40)) = H2 at h0 g0 ha2 ⊢
  refine forLst ha2 (fun i => RowI r H2 (32 * i)) (.mk (by k_caught0) (Gr.refl _ _) h0 (Nat.le_refl _)) (fun i f H' d hd I => ?_) fun f H' I => ?_
  · obtain ⟨f1, g, h, hl⟩ := I
    have hi : i < 40 := Nat.lt_of_lt_of_le (List.getElem?_eq_some_iff.mp hd).1 (List.length_take_le ..)
    obtain ⟨x, e⟩ : ∃ x : Int, d = .int x := by
      obtain ⟨x, _, e⟩ := List.mem_map.mp (List.mem_of_mem_take (List.mem_of_getElem? hd))
      exact ⟨x, e.symm⟩
    subst e
    refine ⟨g a _ hra ha2, ?_⟩
    have hlim : ∀ {j : Nat}, j ≤ 31 → 32 * i + j < lim := fun hj => by have := lim_eq; omega
    have fin : ∀ y : Int, Wxs (C k) [.exp (.mb (.loc "row") "append" [(.bin .Mod (.loc "number") (.con (.int 1013)))]),
        .asg (.one "number") (.bin .FloorDiv (.loc "number") (.con (.int 1013))),
        .forR "turn" [(.con (.int 30))] [
          .ife (.cmp .Gt (.loc "number") (.con (.int 0))) [
            .exp (.mb (.loc "row") "append" [(.bin .Mod (.loc "number") (.con (.int 1013)))]),
            .asg (.one "number") (.bin .FloorDiv (.loc "number") (.con (.int 1013)))] []]] ((f.put "cell" (.d (.int x))).put "number" (.d (.int y))) H'
        (turnQ (RowI r H2 (32 * (i + 1))) (seqQ (C k) [.asg (.one "row") (.slcH (.loc "row") (.con (.int 120))), .exp (.mb (.loc "row") "reverse" []), .ret (.loc "row")] (retQ Q))) := fun y => by
      refine row_turn (m := 32 * i) (.mk (by k_caught0) (.mk (by k_caught0) g h hl)) (hlim (Nat.zero_le _)) fun f2 H3 I => ?_
      tb_start
      refine rngU (n := 30) (by decide) (fun j => TrnI r H2 (32 * i + 1 + j)) I (fun j f H' hj I => ?_) fun f H' I => ?_
      · have I2 : TrnI r H2 (32 * i + 1 + j) (f.put "turn" (.d (.int (j : Int)))) H' := by
          obtain ⟨f2, f1, g, h, hl⟩ := I
          exact .mk (putNe (by decide) f2) (.mk (putNe (by decide) f1) g h hl)
        have f2 : ∃ y, f "number" = some (.d (.int y)) := by obtain ⟨f2, _⟩ := I; exact ⟨_, f2⟩
        obtain ⟨y, f2⟩ := f2
        tb_start
        refine ifD (fun _ => ?_) (fun _ => ?_)
        · exact row_turn I2 (by rw [Nat.add_assoc, Nat.add_comm 1 j]; exact hlim (Nat.succ_le_succ (Nat.le_of_lt hj))) fun f' H' I => I
        · obtain ⟨f2, f1, g, h, hl⟩ := I2
          exact .mk f2 (.mk f1 g h (Nat.le_succ_of_le hl))
      · obtain ⟨_, f1, g, h, hl⟩ := I
        exact .mk f1 g h (Nat.le_trans hl (by omega))
    tb_start
    refine ifD (fun _ => ?_) (fun _ => ?_)
    · exact eLoc (putAt _ _ _) (fin x)
    · exact eBin (eCon (eLoc (putAt _ _ _) (bSub (fin (7 - x)))))
  · obtain ⟨f1, g, h, hl⟩ := I
    rename_i ms
    refine ⟨g a _ hra ha2, ?_⟩
    have hb : ∀ {b : Addr}, H' b = none → H b = none := fun hb => g0.back (g.back hb fun z => by rw [List.mem_singleton.mp z, h] at hb; cases hb) fun z => (nomatch z)
    refine sAsg (eSlcH (n := 120) (ofLoc f1) h ofCon fun b hb => ?_)
    refine sExp (eMb (ofLoc (putAt _ _ _)) (set_at _ _ _) .rev (.rev (set_at _ _ _) (.none (sRet (eLoc (putAt _ _ _) ?_)))))
    refine q b ((ms.take 120).reverse) _ (fun x o _ e => ?_) ?_
    · have hx : x ∉ [r] := fun z => by rw [List.mem_singleton.mp z, hr] at e; cases e
      have e2 := g x o hx (g0 x o (fun z => nomatch z) e)
      exact (set_ne _ _ (ne_new e2 hb)).trans (keep_new e2 hb)
    · refine (set_at _ _ _).trans ?_
      show some (AO.lst ((ms.map Dt.int).take 120).reverse) = some (AO.lst (((ms.take 120).reverse).map Dt.int))
      rw [List.map_reverse, List.map_take]
end
end
section
open PySem
noncomputable def T.sub (σ : Nat → T) : T → T
  | .v n => σ n
  | .a n => .a n
  | .i z => .i z
  | .u t => .u (t.sub σ)
  | .b d s t => .b d (s.sub σ) (t.sub σ)
noncomputable def T.occ (x : Nat) : T → Prop
  | .v n => n = x
  | .u t => t.occ x
  | .b _ s t => s.occ x ∨ t.occ x
  | _ => False
theorem T.sub_v (t : T) : t.sub .v = t := by
  induction t with
  | v n => rfl
  | a n => rfl
  | i z => rfl
  | u t ih => simp only [T.sub, ih]
  | b d s t ih1 ih2 => simp only [T.sub, ih1, ih2]
theorem T.sub_sub (σ τ : Nat → T) (t : T) : (t.sub σ).sub τ = t.sub fun n => (σ n).sub τ := by
  induction t with
  | v n => rfl
  | a n => rfl
  | i z => rfl
  | u t ih => simp only [T.sub, ih]
  | b d s t ih1 ih2 => simp only [T.sub, ih1, ih2]
theorem T.sub_congr {σ τ : Nat → T} : ∀ {t : T}, (∀ n, t.occ n → σ n = τ n) → t.sub σ = t.sub τ
  | .v n, h => h n rfl
  | .a n, h => rfl
  | .i z, h => rfl
  | .u t, h => by simp only [T.sub]; rw [T.sub_congr (t := t) fun n hn => h n hn]
  | .b d s t, h => by simp only [T.sub]; rw [T.sub_congr (t := s) fun n hn => h n (.inl hn), T.sub_congr (t := t) fun n hn => h n (.inr hn)]
noncomputable def T.num : T → List Nat → T × List Nat
  | .v n, L => if n ∈ L then (.v (L.idxOf n), L) else (.v L.length, L ++ [n])
  | .a n, L => (.a n, L)
  | .i z, L => (.i z, L)
  | .u t, L => (.u (t.num L).1, (t.num L).2)
  | .b d s t, L => (.b d (s.num L).1 (t.num (s.num L).2).1, (t.num (s.num L).2).2)
noncomputable def nums : List T → List Nat → List T × List Nat
  | [], L => ([], L)
  | t :: ts, L => ((t.num L).1 :: (nums ts (t.num L).2).1, (nums ts (t.num L).2).2)
section
variable {σ τ : Nat → T}
noncomputable def Twin (σ τ : Nat → T) (L M : List Nat) : Prop := L.map σ = M.map T.v ∧ M.map τ = L.map T.v
theorem twin_idx : ∀ {L M : List Nat}, Twin σ τ L M → ∀ {x y : Nat}, σ x = .v y → τ y = .v x → (x ∈ L ↔ y ∈ M) ∧ L.idxOf x = M.idxOf y
  | [], [], _, x, y, _, _ => by simp
  | [], _ :: _, h, _, _, _, _ => by have := h.1; simp at this
  | _ :: _, [], h, _, _, _, _ => by have := h.1; simp at this
  | a :: L, b :: M, h, x, y, hx, hy => by
    obtain ⟨h1, h2⟩ := h
    simp only [List.map_cons, List.cons.injEq] at h1 h2
    have ih := twin_idx (L := L) (M := M) ⟨h1.2, h2.2⟩ hx hy
    have e : x = a ↔ y = b := by
      constructor
      · intro e; subst e; rw [hx] at h1; exact T.v.inj h1.1
      · intro e; subst e; rw [hy] at h2; exact T.v.inj h2.1
    constructor
    · simp only [List.mem_cons, e, ih.1]
    · by_cases hc : x = a
      · have hc' := e.mp hc
        subst hc; subst hc'
        simp [List.idxOf_cons]
      · have hc' : ¬ y = b := fun z => hc (e.mpr z)
        have n1 : (a == x) = false := by rw [beq_eq_false_iff_ne]; exact fun z => hc z.symm
        have n2 : (b == y) = false := by rw [beq_eq_false_iff_ne]; exact fun z => hc' z.symm
        rw [List.idxOf_cons, List.idxOf_cons, n1, n2, ih.2]
theorem Twin.length {L M : List Nat} (h : Twin σ τ L M) : L.length = M.length := by
  have := congrArg List.length h.1
  simpa using this
theorem num_twin : ∀ {s t : T} {L M : List Nat}, s.sub σ = t → t.sub τ = s → Twin σ τ L M → (s.num L).1 = (t.num M).1 ∧ Twin σ τ (s.num L).2 (t.num M).2
  | .v x, t, L, M, h1, h2, hT => by
    cases t with
    | v y =>
      have hx : σ x = .v y := h1
      have hy : τ y = .v x := h2
      have hi := twin_idx hT hx hy
      unfold T.num
      by_cases hm : x ∈ L
      · rw [if_pos hm, if_pos (hi.1.mp hm)]
        exact ⟨by rw [hi.2], hT⟩
      · rw [if_neg hm, if_neg (fun z => hm (hi.1.mpr z))]
        exact ⟨by rw [hT.length], by simp [hT.1, hx], by simp [hT.2, hy]⟩
    | a n => cases h2
    | i n => cases h2
    | u n => cases h2
    | b d s t => cases h2
  | .a n, t, L, M, h1, h2, hT => by
    subst h1; exact ⟨rfl, hT⟩
  | .i n, t, L, M, h1, h2, hT => by
    subst h1; exact ⟨rfl, hT⟩
  | .u s, t, L, M, h1, h2, hT => by
    subst h1
    simp only [T.sub, T.u.injEq] at h2
    have ih := num_twin (s := s) rfl h2 hT
    simp only [T.sub, T.num]
    exact ⟨by rw [ih.1], ih.2⟩
  | .b d s1 s2, t, L, M, h1, h2, hT => by
    subst h1
    simp only [T.sub, T.b.injEq, true_and] at h2
    have ih1 := num_twin (s := s1) rfl h2.1 hT
    have ih2 := num_twin (s := s2) rfl h2.2 ih1.2
    simp only [T.sub, T.num]
    exact ⟨by rw [ih1.1, ih2.1], ih2.2⟩
theorem nums_twin : ∀ {ss ts : List T} {L M : List Nat}, ss.map (T.sub σ) = ts → ts.map (T.sub τ) = ss → Twin σ τ L M → (nums ss L).1 = (nums ts M).1
  | [], ts, L, M, h1, h2, hT => by subst h1; rfl
  | s :: ss, ts, L, M, h1, h2, hT => by
    subst h1
    simp only [List.map_cons, List.cons.injEq] at h2
    have h := num_twin (s := s) rfl h2.1 hT
    simp only [List.map_cons, nums]
    rw [h.1, nums_twin (ss := ss) rfl h2.2 h.2]
end
end
section
open PySem PySem.W PyProof.Rows
noncomputable def encB (B : List (Nat × T)) : List (Int × Dt) := B.map fun p => ((p.1 : Int), p.2.enc)
theorem look_encB (n : Nat) : ∀ B : List (Nat × T), lookK (n : Int) (encB B) = (lookK n B).map T.enc
  | [] => rfl
  | p :: B => by
    show (if (p.1 : Int) = n then some p.2.enc else lookK (n : Int) (encB B)) = (if p.1 = n then some p.2 else lookK n B).map T.enc
    by_cases h : p.1 = n
    · rw [if_pos h, if_pos (congrArg _ h)]; rfl
    · rw [if_neg h, if_neg (fun e => h (Int.ofNat.inj e) : ¬ ((p.1 : Int) = n))]; exact look_encB n B
inductive EndN (B : List (Nat × T)) : Nat → T → T → Prop
  | stop {t : T} : (∀ n, t = .v n → lookK n B = none) → EndN B 0 t t
  | go {n k : Nat} {t e : T} : lookK n B = some t → EndN B k t e → EndN B (k + 1) (.v n) e
theorem def_law_end : defs (.fn "_law_end") = some ⟨ps_fn_law_end, [], ir_fn_law_end⟩ := by kernel_rfl
theorem def_law_inside : defs (.fn "_law_inside") = some ⟨ps_fn_law_inside, [], ir_fn_law_inside⟩ := by kernel_rfl
inductive EndI (B : List (Nat × T)) (d : Addr) (e : T) (H : AH) (n : Nat) (f : Frm) (H' : AH) : Prop
  | mk {t : T} (hH : H' = H) (f1 : f "bound" = some (.r d)) (f2 : f "term" = some (.d t.enc)) (h : EndN B n t e) : EndI B d e H n f H'
theorem mark_v {t : T} (h : t.mark = "v") : ∃ n, t = .v n := by
  cases t with
  | v n => exact ⟨n, rfl⟩
  | a _ => exact absurd h.symm n_va
  | i _ => exact absurd h.symm n_vi
  | u _ => exact absurd h.symm n_vs
  | b _ _ _ => exact absurd h.symm n_vs
section
variable {C : Nat → Oracle} {H : AH} {Q : Post}
set_option tactic.hygienic true in
theorem end_spec (O : Orc C) (k : Nat) {B : List (Nat × T)} {d : Addr} {t e : T} {j : Nat} (h : H d = some (.di (encB B))) (he : EndN B j t e) (q : Q (.d e.enc) H) : C (k + 1) (.fn "_law_end") [.d t.enc, .r d] H Q := by
  refine intro2 O def_law_end (by decide) fun f f1 f2 => ?_
  refine sWhl (EndI B d e H) j ⟨rfl, f2, f1, he⟩ fun n f H' I => ?_
  obtain ⟨hH, f1, f2, ht⟩ := I
  rename_i t
  subst hH
  have fin : t = e → Wxs (C k) [.ret (.loc "term")] f H' (retQ Q) := fun z => sRet (eLoc f2 (z ▸ q))
  tb_start
  refine ifD (fun hm => ?_) (fun hm => ?_)
  · obtain ⟨m, e1⟩ := mark_v hm
    subst e1
    tb_start
    have hl := look_encB m B
    cases ht with
    | stop hs =>
      rw [hs m rfl] at hl
      refine inDi h (fun d hd => absurd (hd.symm.trans hl) (fun z => nomatch z)) fun _ => ?_
      exact fin rfl
    | go hl2 ht =>
      rename_i k' t'
      rw [hl2] at hl
      refine inDi h (fun d hd => ?_) fun hn => absurd (hn.symm.trans hl) (fun z => nomatch z)
      tb_start
      refine subDi h hl ?_
      tb_start
      exact ⟨k', Nat.lt_succ_self _, .mk rfl (by k_caught0) (by k_caught0) ht⟩
  · cases ht with
    | stop _ => exact .f (fin rfl)
    | go _ _ => exact absurd rfl hm
end
noncomputable def T.sz : T → Nat
  | .v _ => 1
  | .a _ => 1
  | .i _ => 1
  | .u t => t.sz + 1
  | .b _ s t => s.sz + t.sz + 1
theorem T.sz_pos (t : T) : 0 < t.sz := by
  cases t with
  | u t => exact Nat.succ_pos _
  | b _ _ _ => exact Nat.succ_pos _
  | v _ => exact Nat.one_pos
  | a _ => exact Nat.one_pos
  | i _ => exact Nat.one_pos
structure Sol (B : List (Nat × T)) (δ : Nat → T) : Prop where
  free : ∀ n, lookK n B = none → δ n = .v n
  bound : ∀ n t, lookK n B = some t → δ n = t.sub δ
  fin : ∀ t, ∃ j e, EndN B j t e
  raw : ∀ n t, lookK n B = some t → t.dep ≤ 3
theorem EndN.sub {B : List (Nat × T)} {δ : Nat → T} (S : Sol B δ) {j : Nat} {t e : T} (h : EndN B j t e) : t.sub δ = e.sub δ := by
  induction h with
  | stop _ => rfl
  | go hl _ ih => exact (S.bound _ _ hl).trans ih
theorem EndN.out {B : List (Nat × T)} {j : Nat} {t e : T} (h : EndN B j t e) : ∀ n, e = .v n → lookK n B = none := by
  induction h with
  | stop h => exact h
  | go _ _ ih => exact ih
theorem EndN.dep {B : List (Nat × T)} {δ : Nat → T} (S : Sol B δ) {j : Nat} {t e : T} (h : EndN B j t e) (ht : t.dep ≤ 3) : e.dep ≤ 3 := by
  induction h with
  | stop _ => exact ht
  | go hl _ ih => exact ih (S.raw _ _ hl)
theorem EndN.lo {B : List (Nat × T)} {j m : Nat} {t e : T} (h : EndN B j t e) (blo : ∀ n t, lookK n B = some t → t.lo m) (ht : t.lo m) : e.lo m := by
  induction h with
  | stop _ => exact ht
  | go hl _ ih => exact ih (blo _ _ hl)
noncomputable def wsz (δ : Nat → T) (ws : List T) : Nat := (ws.map fun u => (u.sub δ).sz).sum
theorem wsz_app (δ : Nat → T) (a b : List T) : wsz δ (a ++ b) = wsz δ a + wsz δ b := by unfold wsz; rw [List.map_append, List.sum_append]
section
variable {δ : Nat → T} {t : T}
theorem args_occ {x : Nat} (h : t.mark = "s") : (t.sub δ).occ x ↔ ∃ u ∈ t.args, (u.sub δ).occ x := by
  cases T.cmp' h with
  | u e => subst e; exact ⟨fun h => ⟨_, .head _, h⟩, fun ⟨u, hu, h⟩ => by rw [List.mem_singleton.mp hu] at h; exact h⟩
  | b e =>
    subst e
    refine ⟨fun h => h.elim (fun h => ⟨_, .head _, h⟩) fun h => ⟨_, .tail _ (.head _), h⟩, fun ⟨u, hu, h⟩ => ?_⟩
    rcases List.mem_cons.mp hu with e | hu
    · exact .inl (e ▸ h)
    · exact .inr (List.mem_singleton.mp hu ▸ h)
theorem args_sz (h : t.mark = "s") : wsz δ t.args < (t.sub δ).sz := by
  cases T.cmp' h with
  | u e => subst e; exact Nat.lt_succ_self _
  | b e => subst e; exact Nat.lt_succ_self _
theorem args_dep (δ : Nat → T) {u : T} (h : u ∈ t.args) : (u.sub δ).dep < (t.sub δ).dep := by
  cases t with
  | u t => rw [List.mem_singleton.mp h]; exact Nat.lt_succ_self _
  | b d s t =>
    rcases List.mem_cons.mp h with e | hu
    · rw [e]; exact Nat.lt_succ_of_le (Nat.le_max_left ..)
    · rw [List.mem_singleton.mp hu]; exact Nat.lt_succ_of_le (Nat.le_max_right ..)
  | v _ => cases h
  | a _ => cases h
  | i _ => cases h
theorem not_s (h : t.mark ≠ "s") : t.args = [] := by
  cases t with
  | u _ => exact absurd rfl h
  | b _ _ _ => exact absurd rfl h
  | v _ => rfl
  | a _ => rfl
  | i _ => rfl
theorem args_s {u : T} (h : u ∈ t.args) : t.mark = "s" := by
  cases t with
  | u _ => rfl
  | b _ _ _ => rfl
  | v _ => cases h
  | a _ => cases h
  | i _ => cases h
theorem occ_not_s {x : Nat} (h : t.mark ≠ "s") (hv : ∀ n, t = .v n → δ n = .v n) (ho : (t.sub δ).occ x) : t = .v x := by
  cases t with
  | v n =>
    have e : (T.v n).sub δ = .v n := hv n rfl
    rw [e] at ho
    exact congrArg T.v ho
  | a _ => exact ho.elim
  | i _ => exact ho.elim
  | u _ => exact absurd rfl h
  | b _ _ _ => exact absurd rfl h
end
theorem app_get {α : Type} {a b : List α} {i : Nat} {v : α} (h : (a ++ b)[i]? = some v) : a[i]? = some v ∨ (a.length ≤ i ∧ b[i - a.length]? = some v) := by
  rcases Nat.lt_or_ge i a.length with hi | hi
  · rw [List.getElem?_append_left hi] at h; exact .inl h
  · rw [List.getElem?_append_right hi] at h; exact .inr ⟨hi, h⟩
structure Wk (δ : Nat → T) (x : Nat) (P : Prop) (ws : List T) : Prop where
  occ : P ↔ ∃ u ∈ ws, (u.sub δ).occ x
  dep : ∀ i u, ws[i]? = some u → i + (u.sub δ).dep ≤ 500
  raw : ∀ u ∈ ws, u.dep ≤ 3
theorem Wk.push {δ : Nat → T} {x : Nat} {P : Prop} {us : List T} {u e : T} (W : Wk δ x P (us ++ [u])) (he : u.sub δ = e.sub δ) (hd : e.dep ≤ 3) (hv : ∀ n, e = .v n → δ n = .v n) (hx : e ≠ .v x) : Wk δ x P (us ++ e.args) ∧ wsz δ (us ++ e.args) < wsz δ (us ++ [u]) ∧ us.length ≤ 500 := by
  have hu : (us ++ [u])[us.length]? = some u := List.getElem?_concat_length
  have hul := W.dep _ _ hu
  refine ⟨⟨W.occ.trans ⟨fun ⟨v, hv', ho⟩ => ?_, fun ⟨v, hv', ho⟩ => ?_⟩, fun i v hv' => ?_, fun v hv' => ?_⟩, ?_, Nat.le_trans (Nat.le_add_right _ _) hul⟩
  · rcases List.mem_append.mp hv' with h | h
    · exact ⟨v, List.mem_append_left _ h, ho⟩
    · rw [List.mem_singleton.mp h, he] at ho
      by_cases hs : e.mark = "s"
      · obtain ⟨y, hy, hyo⟩ := (args_occ hs).mp ho
        exact ⟨y, List.mem_append_right _ hy, hyo⟩
      · exact absurd (occ_not_s hs hv ho) hx
  · rcases List.mem_append.mp hv' with h | h
    · exact ⟨v, List.mem_append_left _ h, ho⟩
    · exact ⟨u, List.mem_append_right _ (.head _), by rw [he]; exact (args_occ (args_s h)).mpr ⟨v, h, ho⟩⟩
  · rcases app_get hv' with h | ⟨hi, h⟩
    · exact W.dep i v (by rw [List.getElem?_append_left (List.getElem?_eq_some_iff.mp h).1]; exact h)
    · have h3 := args_dep δ (List.mem_of_getElem? h)
      rw [he] at hul
      have h5 := (List.getElem?_eq_some_iff.mp h).1
      have h6 := args_len e
      omega
  · rcases List.mem_append.mp hv' with h | h
    · exact W.raw v (List.mem_append_left _ h)
    · exact Nat.le_trans (Nat.le_of_lt (args_dep0 v h)) hd
  · rw [wsz_app, wsz_app]
    refine Nat.add_lt_add_left ?_ _
    rw [show wsz δ [u] = (e.sub δ).sz by rw [← he]; rfl]
    by_cases hs : e.mark = "s"
    · exact args_sz hs
    · rw [not_s hs]; exact T.sz_pos _
inductive InsI (δ : Nat → T) (x : Nat) (P : Prop) (w d : Addr) (H2 : AH) (n : Nat) (f : Frm) (H' : AH) : Prop
  | mk {ws : List T} (f1 : f "work" = some (.r w)) (f2 : f "k" = some (.d (.int (x : Int)))) (f3 : f "bound" = some (.r d)) (g : Gr [w] H2 H') (h : H' w = some (.lst (encs ws))) (hn : n = wsz δ ws) (W : Wk δ x P ws) : InsI δ x P w d H2 n f H'
theorem snoc_of {α : Type} {l : List α} (h : l ≠ []) : ∃ us u, l = us ++ [u] := (List.eq_nil_or_concat l).elim (fun e => absurd e h) fun ⟨us, u, e⟩ => ⟨us, u, by rw [e, List.concat_eq_append]⟩
section
variable {C : Nat → Oracle} {H : AH} {Q : Post}
theorem inside_spec (O : Orc C) (k : Nat) {B : List (Nat × T)} {δ : Nat → T} {d : Addr} {t : T} {x : Nat} (S : Sol B δ) (h : H d = some (.di (encB B))) (hx : lookK x B = none) (ht : t.dep ≤ 3) (hD : (t.sub δ).dep ≤ 500)
    (q : ∀ H' (z : Bool), Gr [] H H' → (z = true ↔ (t.sub δ).occ x) → Q (.d (.bool z)) H') : C (k + 2) (.fn "_law_inside") [.d (.int x), .d t.enc, .r d] H Q := by
  refine intro3 O def_law_inside (by decide) (by decide) (by decide) fun f f2 f1 f3 => ?_
  tb_start
  intro w hw
  have hdw := ne_new h hw
  have hd0 : (H.set w (.lst [t.enc])) d = some (.di (encB B)) := keep_new h hw
  have hw0 := set_at H w (.lst [t.enc])
  have gn : Gr [] H (H.set w (.lst [t.enc])) := Gr.new hw
  show Wxs _ _ _ (H.set w (.lst [t.enc])) _
  generalize H.set w (.lst [t.enc]) = H2 at hd0 hw0 gn ⊢
  have gH : ∀ {H3 : AH}, Gr [w] H2 H3 → Gr [] H H3 := fun g => gn.trans g fun y hy => .inr (by rw [List.mem_singleton.mp hy]; exact hw)
  refine sWhl (InsI δ x ((t.sub δ).occ x) w d H2) _ (.mk (ws := [t]) (by k_caught0) (by k_caught0) (by k_caught0) (Gr.refl _ _) hw0 rfl ⟨⟨fun h => ⟨t, .head _, h⟩, fun ⟨u, hu, h⟩ => List.mem_singleton.mp hu ▸ h⟩, fun i u hu => ?_, fun u hu => List.mem_singleton.mp hu ▸ ht⟩) fun n f H' I => ?_
  · have hi := (List.getElem?_eq_some_iff.mp hu).1
    have e : i = 0 := Nat.lt_one_iff.mp hi
    subst e
    cases hu
    rw [Nat.zero_add]; exact hD
  obtain ⟨f1, f2, f3, g1, h1, hn, W⟩ := I
  rename_i ws
  subst hn
  tb_start
  intro a ha
  refine cNeNil (keep_new h1 ha) (set_at _ _ _) (encs_oks fun u hu => Nat.le_trans (W.raw u hu) (by decide)) (fun hne => ?_) fun e => ?_
  · obtain ⟨us, u, e⟩ := snoc_of (fun e => hne (by rw [e]; rfl) : ws ≠ [])
    subst e
    have h2 := keep_new (o' := .lst []) h1 ha
    rw [encs_app] at h2
    tb_start
    refine ePopC (ofLoc f1) h2 ?_
    have hd2 : ((H'.set a (.lst [])).set w (.lst (encs us))) d = some (.di (encB B)) := (set_ne _ _ hdw).trans (keep_new (g1 d _ (fun z => hdw (List.mem_singleton.mp z)) hd0) ha)
    have hw2 := set_at (H'.set a (.lst [])) w (.lst (encs us))
    have g2 : Gr [w] H2 ((H'.set a (.lst [])).set w (.lst (encs us))) := (g1.tr (Gr.new ha).up0).tr Gr.set
    generalize (H'.set a (.lst [])).set w (.lst (encs us)) = H3 at hd2 hw2 g2 ⊢
    obtain ⟨j, e', he⟩ := S.fin u
    have hes := he.sub S
    have her := he.dep S (W.raw u (List.mem_append_right _ (.head _)))
    tb_start
    refine end_spec O k hd2 he ?_
    tb_start
    refine cEqT (t := .v x) (Nat.le_trans her (by decide)) (Nat.zero_le _) (fun e3 => ?_) fun hnx => ?_
    · tb_start
      refine q _ true (gH g2) ⟨fun _ => W.occ.mpr ⟨u, List.mem_append_right _ (.head _), ?_⟩, fun _ => rfl⟩
      rw [hes, e3]
      show (δ x).occ x
      rw [S.free x hx]; exact rfl
    · obtain ⟨W2, hsz, hlen⟩ := W.push hes her (fun n hn => S.free n (he.out n hn)) hnx
      tb_start
      refine ifD (fun hs => ?_) (fun hs => ?_)
      · refine sExp (eExt (ofLoc (by k_caught0)) hw2 (eArgs (by k_caught0) hs ?_))
        refine .ext hw2 ?_ (.none ?_)
        · rw [encs_len, encs_len]
          exact Nat.lt_of_le_of_lt (Nat.add_le_add hlen (args_len e')) (by decide)
        rw [← encs_app]
        exact ⟨_, hsz, .mk (by k_caught0) (by k_caught0) (by k_caught0) (g2.tr Gr.set) (set_at _ _ _) rfl W2⟩
      · rw [not_s hs, List.append_nil] at W2 hsz
        tb_start
        exact ⟨_, hsz, .mk (by k_caught0) (by k_caught0) (by k_caught0) g2 hw2 rfl W2⟩
  · have e : ws = [] := List.map_eq_nil_iff.mp e
    subst e
    tb_start
    exact q _ false (gH (g1.tr (Gr.new ha).up0)) ⟨fun z => (nomatch z), fun ho => by obtain ⟨_, hm, _⟩ := W.occ.mp ho; cases hm⟩
end
end
section
open PySem
theorem lookK_append {V : Type} (n : Nat) : ∀ (B : List (Nat × V)) (k : Nat) (t : V), lookK n (B ++ [(k, t)]) = match lookK n B with | some u => some u | none => if k = n then some t else none
  | [], k, t => by simp [lookK]
  | p :: B, k, t => by
    simp only [List.cons_append, lookK]
    split
    · rfl
    · exact lookK_append n B k t
inductive Topo (B : List (Nat × T)) : List Nat → Prop
  | nil : Topo B []
  | cons {n : Nat} {t : T} {L : List Nat} : lookK n B = some t → (∀ m, t.occ m → lookK m B ≠ none → m ∈ L) → Topo B L → Topo B (n :: L)
theorem sub_dep {δ : Nat → T} {D : Nat} {t : T} (h : ∀ m, t.occ m → (δ m).dep ≤ D) : (t.sub δ).dep ≤ t.dep + D := by
  induction t with
  | v n => exact Nat.le_trans (h n rfl) (Nat.le_add_left ..)
  | a n => exact Nat.zero_le _
  | i n => exact Nat.zero_le _
  | u t ih => exact Nat.le_trans (Nat.succ_le_succ (ih h)) (Nat.le_of_eq (Nat.add_right_comm _ D 1))
  | b d s t ih1 ih2 =>
    exact Nat.le_trans (Nat.succ_le_succ (Nat.max_le.mpr ⟨Nat.le_trans (ih1 fun m hm => h m (.inl hm)) (Nat.add_le_add_right (Nat.le_max_left ..) D), Nat.le_trans (ih2 fun m hm => h m (.inr hm)) (Nat.add_le_add_right (Nat.le_max_right ..) D)⟩)) (Nat.le_of_eq (Nat.add_right_comm _ D 1))
section
variable {B : List (Nat × T)} {δ : Nat → T} {L : List Nat}
theorem Topo.depth (free : ∀ n, lookK n B = none → δ n = .v n) (bound : ∀ n t, lookK n B = some t → δ n = t.sub δ) (raw : ∀ n t, lookK n B = some t → t.dep ≤ 3) (h : Topo B L) : ∀ n ∈ L, (δ n).dep ≤ 3 * L.length := by
  induction h with
  | nil => intro n hn; cases hn
  | @cons n t L hl hocc _ ih =>
    have hn : (δ n).dep ≤ 3 * (L.length + 1) := by
      rw [bound n t hl]
      have := sub_dep (δ := δ) (D := 3 * L.length) (t := t) fun m hm => by
        cases hb : lookK m B with
        | none => rw [free m hb]; exact Nat.zero_le _
        | some u => exact ih m (hocc m hm (by rw [hb]; exact fun z => nomatch z))
      rw [Nat.mul_succ, Nat.add_comm]
      exact Nat.le_trans this (Nat.add_le_add_right (raw n t hl) _)
    intro m hm
    rw [List.length_cons]
    rcases List.mem_cons.mp hm with rfl | hm
    · exact hn
    · exact Nat.le_trans (ih m hm) (Nat.mul_le_mul_left 3 (Nat.le_succ _))
theorem Topo.fin (h : Topo B L) : ∀ n ∈ L, ∃ j e, EndN B j (.v n) e := by
  induction h with
  | nil => intro n hn; cases hn
  | @cons n t L hl hocc _ ih =>
    intro m hm
    rcases List.mem_cons.mp hm with rfl | hm
    · by_cases hv : ∃ y, t = .v y ∧ lookK y B ≠ none
      · obtain ⟨y, rfl, hy⟩ := hv
        obtain ⟨j, e, he⟩ := ih y (hocc y rfl hy)
        exact ⟨j + 1, e, .go hl he⟩
      · refine ⟨1, t, .go hl (.stop fun y hy => ?_)⟩
        cases hb : lookK y B with
        | none => rfl
        | some u => exact absurd ⟨y, hy, by rw [hb]; exact fun z => nomatch z⟩ hv
    · exact ih m hm
theorem end_all (h : Topo B L) (hall : ∀ n, lookK n B ≠ none → n ∈ L) (t : T) : ∃ j e, EndN B j t e := by
  by_cases hv : ∃ y, t = .v y ∧ lookK y B ≠ none
  · obtain ⟨y, rfl, hy⟩ := hv
    exact h.fin y (hall y hy)
  · refine ⟨0, t, .stop fun y hy => ?_⟩
    cases hb : lookK y B with
    | none => rfl
    | some u => exact absurd ⟨y, hy, by rw [hb]; exact fun z => nomatch z⟩ hv
end
theorem occ_sub {δ : Nat → T} {x : Nat} : ∀ {t : T}, (t.sub δ).occ x ↔ ∃ m, t.occ m ∧ (δ m).occ x
  | .v n => by simp [T.sub, T.occ]
  | .a n => by simp [T.sub, T.occ]
  | .i n => by simp [T.sub, T.occ]
  | .u t => by simp only [T.sub, T.occ]; exact occ_sub
  | .b d s t => by
    simp only [T.sub, T.occ, occ_sub (t := s), occ_sub (t := t)]
    constructor
    · rintro (⟨m, h1, h2⟩ | ⟨m, h1, h2⟩)
      · exact ⟨m, .inl h1, h2⟩
      · exact ⟨m, .inr h1, h2⟩
    · rintro ⟨m, h1 | h1, h2⟩
      · exact .inl ⟨m, h1, h2⟩
      · exact .inr ⟨m, h1, h2⟩
section
open Classical
variable {B : List (Nat × T)} {δ : Nat → T} {L : List Nat} {k : Nat} {t : T}
theorem look_more (hk : lookK k B = none) (n : Nat) : lookK n (B ++ [(k, t)]) = if n = k then some t else lookK n B := by
  rw [lookK_append]
  by_cases h : n = k
  · subst h; rw [hk]
  · rw [if_neg h]
    cases lookK n B with
    | some u => rfl
    | none => simp [Ne.symm h]
theorem Topo.bind (free : ∀ n, lookK n B = none → δ n = .v n) (bound : ∀ n t, lookK n B = some t → δ n = t.sub δ) (h : Topo B L) (hall : ∀ n, lookK n B ≠ none → n ∈ L) (hk : lookK k B = none) (ht : ¬ (t.sub δ).occ k) :
    ∃ L', Topo (B ++ [(k, t)]) L' ∧ (∀ n, lookK n (B ++ [(k, t)]) ≠ none → n ∈ L') ∧ L'.length = L.length + 1 := by
  have hdk : (δ k).occ k := by rw [free k hk]; rfl
  have dep : ∀ n u m, lookK n B = some u → u.occ m → (δ m).occ k → (δ n).occ k := fun n u m hl hm ho => by
    rw [bound n u hl]; exact occ_sub.mpr ⟨m, hm, ho⟩
  have lb : ∀ n u, lookK n B = some u → lookK n (B ++ [(k, t)]) = some u := fun n u hl => by
    rw [look_more hk, if_neg (fun e => by rw [e, hk] at hl; cases hl)]; exact hl
  have lb' : ∀ n, lookK n (B ++ [(k, t)]) ≠ none → n = k ∨ lookK n B ≠ none := fun n hn => by
    rw [look_more hk] at hn
    by_cases e : n = k
    · exact .inl e
    · rw [if_neg e] at hn; exact .inr hn
  have A : ∀ {L : List Nat}, Topo B L → Topo (B ++ [(k, t)]) (L.filter fun n => decide (¬ (δ n).occ k)) := by
    intro L h
    induction h with
    | nil => exact .nil
    | @cons n u L hl hocc _ ih =>
      rw [List.filter_cons]
      split
      · rename_i hp
        simp only [decide_eq_true_eq] at hp
        refine .cons (lb n u hl) (fun m hm hb => ?_) ih
        rcases lb' m hb with rfl | hb
        · exact absurd (dep n u _ hl hm hdk) hp
        · rw [List.mem_filter]
          exact ⟨hocc m hm hb, by simp only [decide_eq_true_eq]; exact fun z => hp (dep n u m hl hm z)⟩
      · exact ih
  have Bk : Topo (B ++ [(k, t)]) (k :: L.filter fun n => decide (¬ (δ n).occ k)) := by
    refine .cons (by rw [look_more hk, if_pos rfl]) (fun m hm hb => ?_) (A h)
    rcases lb' m hb with rfl | hb
    · exact absurd (occ_sub.mpr ⟨_, hm, hdk⟩) ht
    · rw [List.mem_filter]
      exact ⟨hall m hb, by simp only [decide_eq_true_eq]; exact fun z => ht (occ_sub.mpr ⟨m, hm, z⟩)⟩
  have D : ∀ {L' : List Nat}, Topo B L' → (∀ m ∈ L', m ∈ L) → Topo (B ++ [(k, t)]) ((L'.filter fun n => decide ((δ n).occ k)) ++ k :: L.filter fun n => decide (¬ (δ n).occ k)) := by
    intro L' h'
    induction h' with
    | nil => intro _; exact Bk
    | @cons n u L' hl hocc _ ih =>
      intro hs
      have ih := ih fun m hm => hs m (List.mem_cons_of_mem _ hm)
      rw [List.filter_cons]
      split
      · refine .cons (lb n u hl) (fun m hm hb => ?_) ih
        refine List.mem_append.mpr ?_
        rcases lb' m hb with rfl | hb
        · exact .inr List.mem_cons_self
        · have hmL := hocc m hm hb
          by_cases ho : (δ m).occ k
          · exact .inl (by rw [List.mem_filter]; exact ⟨hmL, decide_eq_true ho⟩)
          · exact .inr (List.mem_cons_of_mem _ (by rw [List.mem_filter]; exact ⟨hs m (List.mem_cons_of_mem _ hmL), decide_eq_true ho⟩))
      · exact ih
  refine ⟨_, D h fun m hm => hm, fun n hn => ?_, ?_⟩
  · rw [List.mem_append]
    rcases lb' n hn with rfl | hb
    · exact .inr List.mem_cons_self
    · by_cases ho : (δ n).occ k
      · exact .inl (by rw [List.mem_filter]; exact ⟨hall n hb, decide_eq_true ho⟩)
      · exact .inr (List.mem_cons_of_mem _ (by rw [List.mem_filter]; exact ⟨hall n hb, decide_eq_true ho⟩))
  · rw [List.length_append, List.length_cons]
    have : ∀ l : List Nat, (l.filter fun n => decide ((δ n).occ k)).length + (l.filter fun n => decide (¬ (δ n).occ k)).length = l.length := by
      intro l
      induction l with
      | nil => rfl
      | cons a l ih =>
        simp only [List.filter_cons]
        by_cases ho : (δ a).occ k
        · simp only [ho, decide_true, if_true, not_true_eq_false, decide_false, Bool.false_eq_true, if_false, List.length_cons] at ih ⊢; omega
        · simp only [ho, decide_false, Bool.false_eq_true, if_false, not_false_eq_true, decide_true, if_true, List.length_cons] at ih ⊢; omega
    have := this L
    omega
end
noncomputable def SolvesB (θ : Nat → T) (B : List (Nat × T)) : Prop := ∀ n t, lookK n B = some t → θ n = t.sub θ
noncomputable def SolvesE (θ : Nat → T) (E : List (T × T)) : Prop := ∀ p ∈ E, p.1.sub θ = p.2.sub θ
structure MG (E : List (T × T)) (B : List (Nat × T)) (W : List (T × T)) (δ : Nat → T) : Prop where
  free : ∀ n, lookK n B = none → δ n = .v n
  bound : ∀ n t, lookK n B = some t → δ n = t.sub δ
  raw : ∀ n t, lookK n B = some t → t.dep ≤ 3
  gen : ∀ θ, SolvesB θ B → ∀ n, (δ n).sub θ = θ n
  topo : ∃ L, Topo B L ∧ (∀ n, lookK n B ≠ none → n ∈ L) ∧ L.length = B.length
  eqv : ∀ θ, SolvesE θ E ↔ (SolvesB θ B ∧ SolvesE θ W)
section
variable {E W : List (T × T)} {B : List (Nat × T)} {δ : Nat → T}
theorem MG.sol (M : MG E B W δ) : Sol B δ := by
  obtain ⟨L, h1, h2, _⟩ := M.topo
  exact ⟨M.free, M.bound, fun t => end_all h1 h2 t, M.raw⟩
theorem MG.dep (M : MG E B W δ) (n : Nat) : (δ n).dep ≤ 3 * B.length := by
  obtain ⟨L, h1, h2, h3⟩ := M.topo
  cases h : lookK n B with
  | none => rw [M.free n h]; exact Nat.zero_le _
  | some t => rw [← h3]; exact h1.depth M.free M.bound M.raw n (h2 n (by rw [h]; exact fun z => nomatch z))
theorem MG.sub (M : MG E B W δ) {θ : Nat → T} (h : SolvesB θ B) (t : T) : (t.sub δ).sub θ = t.sub θ := by
  rw [T.sub_sub]
  exact T.sub_congr fun n _ => M.gen θ h n
theorem MG.start (E : List (T × T)) : MG E [] E .v :=
  ⟨fun _ _ => rfl, fun _ _ h => (nomatch h), fun _ _ h => (nomatch h), fun θ _ n => rfl, ⟨[], Topo.nil, fun _ h => absurd rfl h, rfl⟩, fun θ => ⟨fun h => ⟨fun _ _ h => (nomatch h), h⟩, fun h => h.2⟩⟩
theorem solvesE_snoc {θ : Nat → T} {p : T × T} : SolvesE θ (W ++ [p]) ↔ SolvesE θ W ∧ p.1.sub θ = p.2.sub θ := by
  unfold SolvesE
  constructor
  · intro h; exact ⟨fun q hq => h q (by simp [hq]), h p (by simp)⟩
  · rintro ⟨h1, h2⟩ q hq
    rcases List.mem_append.mp hq with hq | hq
    · exact h1 q hq
    · rw [List.mem_singleton.mp hq]; exact h2
theorem MG.work {W' : List (T × T)} (M : MG E B W δ) (h : ∀ θ, SolvesB θ B → (SolvesE θ W ↔ SolvesE θ W')) : MG E B W' δ :=
  ⟨M.free, M.bound, M.raw, M.gen, M.topo, fun θ => (M.eqv θ).trans ⟨fun ⟨a, b⟩ => ⟨a, (h θ a).mp b⟩, fun ⟨a, b⟩ => ⟨a, (h θ a).mpr b⟩⟩⟩
open Classical in
theorem MG.bind {k : Nat} {t : T} (M : MG E B (W ++ [(.v k, t)]) δ) (hk : lookK k B = none) (ht : ¬ (t.sub δ).occ k) (hd : t.dep ≤ 3) :
    MG E (B ++ [(k, t)]) W (fun n => (δ n).sub fun m => if m = k then t.sub δ else .v m) := by
  have key : ∀ u : T, u.sub (fun n => (δ n).sub fun m => if m = k then t.sub δ else .v m) = (u.sub δ).sub fun m => if m = k then t.sub δ else .v m := fun u => by rw [T.sub_sub]
  have stay : ∀ u : T, ¬ u.occ k → u.sub (fun m => if m = k then t.sub δ else .v m) = u := fun u hu => by
    conv => rhs; rw [← T.sub_v u]
    exact T.sub_congr fun n hn => if_neg fun e : n = k => hu (by rw [← e]; exact hn)
  obtain ⟨L, h1, h2, h3⟩ := M.topo
  have solves : ∀ θ, SolvesB θ (B ++ [(k, t)]) ↔ SolvesB θ B ∧ θ k = t.sub θ := fun θ => by
    constructor
    · intro h
      refine ⟨fun n u hu => h n u ?_, h k t (by rw [look_more hk, if_pos rfl])⟩
      rw [look_more hk, if_neg (fun e => by rw [e, hk] at hu; cases hu)]; exact hu
    · rintro ⟨ha, hb⟩ n u hu
      rw [look_more hk] at hu
      by_cases e : n = k
      · rw [if_pos e] at hu; cases hu; rw [e]; exact hb
      · rw [if_neg e] at hu; exact ha n u hu
  refine ⟨fun n hn => ?_, fun n u hu => ?_, fun n u hu => ?_, fun θ hθ n => ?_, ?_, fun θ => ?_⟩
  · rw [look_more hk] at hn
    by_cases e : n = k
    · rw [if_pos e] at hn; cases hn
    · rw [if_neg e] at hn
      show (δ n).sub _ = _
      rw [M.free n hn]
      exact if_neg e
  · rw [look_more hk] at hu
    show (δ n).sub _ = _
    rw [key]
    by_cases e : n = k
    · rw [if_pos e] at hu; cases hu
      rw [e, M.free k hk, stay _ ht]
      exact if_pos rfl
    · rw [if_neg e] at hu
      rw [M.bound n u hu]
  · rw [look_more hk] at hu
    by_cases e : n = k
    · rw [if_pos e] at hu; cases hu; exact hd
    · rw [if_neg e] at hu; exact M.raw n u hu
  · obtain ⟨ha, hb⟩ := (solves θ).mp hθ
    show ((δ n).sub _).sub θ = θ n
    rw [T.sub_sub, ← M.gen θ ha n]
    refine T.sub_congr fun m _ => ?_
    by_cases e : m = k
    · rw [if_pos e, M.sub ha, e]; exact hb.symm
    · rw [if_neg e]; rfl
  · obtain ⟨L', a1, a2, a3⟩ := Topo.bind M.free M.bound h1 h2 hk ht
    exact ⟨L', a1, a2, by rw [a3, h3, List.length_append, List.length_singleton]⟩
  · rw [M.eqv θ, solvesE_snoc, solves]
    constructor
    · rintro ⟨a, b, c⟩; exact ⟨⟨a, c⟩, b⟩
    · rintro ⟨⟨a, c⟩, b⟩; exact ⟨a, b, c⟩
end
noncomputable def isV : T → Bool
  | .v _ => true
  | _ => false
noncomputable def swapT (s t : T) : T × T := if isV s = false ∧ isV t = true then (t, s) else (s, t)
inductive SolveN : Nat → List (Nat × T) → List (T × T) → Option (List (Nat × T)) → Prop
  | done {B : List (Nat × T)} : SolveN 0 B [] (some B)
  | same {n j1 j2 : Nat} {B : List (Nat × T)} {W : List (T × T)} {s t s' t' : T} {r : Option (List (Nat × T))} : EndN B j1 s s' → EndN B j2 t t' → s' = t' → s'.dep ≤ 3 → SolveN n B W r → SolveN (n + 1) B (W ++ [(s, t)]) r
  | bind {n j1 j2 k : Nat} {B : List (Nat × T)} {W : List (T × T)} {s t s' t' u : T} {δ : Nat → T} {r : Option (List (Nat × T))} : EndN B j1 s s' → EndN B j2 t t' → s' ≠ t' → s'.dep ≤ 3 → t'.dep ≤ 3 → swapT s' t' = (.v k, u) → lookK k B = none →
      Sol B δ → (u.sub δ).dep ≤ 500 → ¬ (u.sub δ).occ k → SolveN n (B ++ [(k, u)]) W r → B.length < 100 → SolveN (n + 1) B (W ++ [(s, t)]) r
  | occ {j1 j2 k : Nat} {B : List (Nat × T)} {W : List (T × T)} {s t s' t' u : T} {δ : Nat → T} : EndN B j1 s s' → EndN B j2 t t' → s' ≠ t' → s'.dep ≤ 3 → t'.dep ≤ 3 → swapT s' t' = (.v k, u) → lookK k B = none →
      Sol B δ → (u.sub δ).dep ≤ 500 → (u.sub δ).occ k → SolveN 1 B (W ++ [(s, t)]) none
  | dec {n j1 j2 : Nat} {B : List (Nat × T)} {W : List (T × T)} {s t s' t' : T} {r : Option (List (Nat × T))} : EndN B j1 s s' → EndN B j2 t t' → s' ≠ t' → s'.dep ≤ 3 → t'.dep ≤ 3 → s'.mark = "s" → t'.mark = "s" → s'.fnum = t'.fnum → W.length ≤ 5000 →
      SolveN n B (W ++ s'.args.zip t'.args) r → SolveN (n + 1) B (W ++ [(s, t)]) r
  | clash {j1 j2 : Nat} {B : List (Nat × T)} {W : List (T × T)} {s t s' t' : T} : EndN B j1 s s' → EndN B j2 t t' → s' ≠ t' → s'.dep ≤ 3 → t'.dep ≤ 3 → isV s' = false → isV t' = false → ¬ (s'.mark = "s" ∧ t'.mark = "s" ∧ s'.fnum = t'.fnum) → SolveN 1 B (W ++ [(s, t)]) none
theorem nodup_le {α : Type} [DecidableEq α] (K l : List α) (hn : l.Nodup) (h : ∀ x ∈ l, x ∈ K) : l.length ≤ K.length := by
  induction l generalizing K with
  | nil => exact Nat.zero_le _
  | cons a l ih =>
    rw [List.nodup_cons] at hn
    have := ih (K.erase a) hn.2 fun x hx => (List.mem_erase_of_ne (show x ≠ a from fun e => hn.1 (e ▸ hx))).mpr (h x (.tail _ hx))
    rw [List.length_erase_of_mem (h a (.head _))] at this
    exact Nat.add_le_of_le_sub (List.length_pos_of_mem (h a (.head _))) this
theorem pigeon (m : Nat) (l : List Nat) (hn : l.Nodup) (h : ∀ x ∈ l, x < m) : l.length ≤ m := Nat.le_trans (nodup_le (List.range m) l hn fun x hx => List.mem_range.mpr (h x hx)) (Nat.le_of_eq List.length_range)
theorem occ_sz {θ : Nat → T} {k : Nat} {t : T} (h : t.occ k) : (θ k).sz ≤ (t.sub θ).sz := by
  induction t with
  | v n => obtain rfl : n = k := h; exact Nat.le_refl _
  | a n => cases h
  | i n => cases h
  | u t ih => exact Nat.le_succ_of_le (ih h)
  | b d s t ih1 ih2 =>
    rcases h with h | h
    · exact Nat.le_succ_of_le (Nat.le_trans (ih1 h) (Nat.le_add_right ..))
    · exact Nat.le_succ_of_le (Nat.le_trans (ih2 h) (Nat.le_add_left ..))
theorem occ_lt {θ : Nat → T} {k : Nat} {t : T} (h : t.occ k) (hn : t ≠ .v k) : (θ k).sz < (t.sub θ).sz := by
  cases t with
  | v n => exact absurd (by rw [show n = k from h]) hn
  | a n => cases h
  | i n => cases h
  | u t => exact Nat.lt_succ_of_le (occ_sz (t := t) h)
  | b d s t =>
    rcases h with h | h
    · exact Nat.lt_succ_of_le (Nat.le_trans (occ_sz (t := s) h) (Nat.le_add_right ..))
    · exact Nat.lt_succ_of_le (Nat.le_trans (occ_sz (t := t) h) (Nat.le_add_left ..))
theorem same_fun {s t : T} (hs : s.mark = "s") (ht : t.mark = "s") (hf : s.fnum = t.fnum) : (∃ x y, s = .u x ∧ t = .u y) ∨ ∃ d x1 x2 y1 y2, s = .b d x1 x2 ∧ t = .b d y1 y2 := by
  cases T.cmp' hs with
  | u e1 => cases T.cmp' ht with
    | u e2 => exact .inl ⟨_, _, e1, e2⟩
    | b e2 => rw [e1, e2] at hf; exact (fnum_ub hf).elim
  | b e1 => cases T.cmp' ht with
    | u e2 => rw [e1, e2] at hf; exact (fnum_ub hf.symm).elim
    | b e2 =>
      rw [e1, e2] at hf
      rw [← fnum_bb hf] at e2
      exact .inr ⟨_, _, _, _, _, e1, e2⟩
theorem dec_iff {s t : T} {θ : Nat → T} (hs : s.mark = "s") (ht : t.mark = "s") (hf : s.fnum = t.fnum) : s.sub θ = t.sub θ ↔ ∀ p ∈ s.args.zip t.args, p.1.sub θ = p.2.sub θ := by
  rcases same_fun hs ht hf with ⟨x, y, e1, e2⟩ | ⟨d, x1, x2, y1, y2, e1, e2⟩
  · rw [e1, e2]
    exact ⟨fun h => List.forall_mem_cons.mpr ⟨T.u.inj h, fun _ z => nomatch z⟩, fun h => congrArg T.u (h _ (.head _))⟩
  · rw [e1, e2]
    refine ⟨fun h => List.forall_mem_cons.mpr ⟨(T.b.inj h).2.1, List.forall_mem_cons.mpr ⟨(T.b.inj h).2.2, fun _ z => nomatch z⟩⟩, fun h => ?_⟩
    show T.b d (x1.sub θ) (x2.sub θ) = T.b d (y1.sub θ) (y2.sub θ)
    rw [show x1.sub θ = y1.sub θ from h (x1, y1) (.head _), show x2.sub θ = y2.sub θ from h (x2, y2) (.tail _ (.head _))]
theorem clash_no {s t : T} {θ : Nat → T} (hs : isV s = false) (ht : isV t = false) (hn : s ≠ t) (h : ¬ (s.mark = "s" ∧ t.mark = "s" ∧ s.fnum = t.fnum)) : s.sub θ ≠ t.sub θ := by
  intro e
  cases s <;> cases t <;> first | (cases hs; done) | (cases ht; done) | (simp [T.sub] at e; done) | skip
  all_goals first
    | (simp only [T.sub] at e; exact hn e)
    | (exact h ⟨rfl, rfl, rfl⟩)
    | (simp only [T.sub, T.b.injEq] at e; exact h ⟨rfl, rfl, by simp only [T.fnum, e.1]⟩)
structure GS (E : List (T × T)) (B : List (Nat × T)) (W : List (T × T)) (δ : Nat → T) : Prop where
  mg : MG E B W δ
  keys : (B.map (·.1)).Nodup
  klt : ∀ p ∈ B, p.1 < 7
  blo : ∀ n t, lookK n B = some t → t.lo 7
  wlo : ∀ p ∈ W, (p.1.lo 7 ∧ p.2.lo 7) ∧ p.1.dep ≤ 3 ∧ p.2.dep ≤ 3
  len : ∀ i p, W[i]? = some p → i + (p.1.sub δ).dep ≤ 100 * (1 + B.length)
section
variable {E W : List (T × T)} {B : List (Nat × T)} {δ : Nat → T}
theorem GS.blen (G : GS E B W δ) : B.length ≤ 7 := by
  have := pigeon 7 _ G.keys fun x hx => by
    obtain ⟨p, hp, rfl⟩ := List.mem_map.mp hx
    exact G.klt p hp
  simpa using this
theorem GS.dep (G : GS E B W δ) {t : T} (h : t.dep ≤ 3) : (t.sub δ).dep ≤ 24 := by
  have h1 := G.blen
  have := sub_dep (δ := δ) (D := 3 * B.length) (t := t) fun m _ => G.mg.dep m
  exact Nat.le_trans this (Nat.add_le_add h (Nat.mul_le_mul_left 3 h1))
theorem look_none {n : Nat} : ∀ {B : List (Nat × T)}, lookK n B = none → n ∉ B.map (·.1)
  | [], _ => by simp
  | p :: B, h => by
    simp only [lookK] at h
    split at h
    · cases h
    · rename_i hne
      simp only [List.map_cons, List.mem_cons, not_or]
      exact ⟨fun e => hne e.symm, look_none h⟩
noncomputable def tot (δ : Nat → T) (W : List (T × T)) : Nat := (W.map fun p => (p.1.sub δ).sz + (p.2.sub δ).sz).sum
theorem tot_snoc (δ : Nat → T) (W : List (T × T)) (p : T × T) : tot δ (W ++ [p]) = tot δ W + ((p.1.sub δ).sz + (p.2.sub δ).sz) := by simp [tot]
theorem tot_append (δ : Nat → T) (W V : List (T × T)) : tot δ (W ++ V) = tot δ W + tot δ V := by simp [tot]
theorem swap_cases (s t : T) : (swapT s t = (s, t) ∧ ¬ (isV s = false ∧ isV t = true)) ∨ (swapT s t = (t, s) ∧ isV s = false ∧ isV t = true) := by
  unfold swapT
  by_cases h : isV s = false ∧ isV t = true
  · rw [if_pos h]; exact .inr ⟨rfl, h⟩
  · rw [if_neg h]; exact .inl ⟨rfl, h⟩
theorem isV_of {t : T} (h : isV t = true) : ∃ n, t = .v n := by
  cases t with
  | v n => exact ⟨n, rfl⟩
  | _ => cases h
theorem solve_ex : ∀ (b s : Nat) (B : List (Nat × T)) (W : List (T × T)) (δ : Nat → T), GS E B W δ → B.length + b = 7 → tot δ W = s →
    ∃ n r, SolveN n B W r ∧ ((∃ B' δ', r = some B' ∧ GS E B' [] δ') ∨ (r = none ∧ ∀ θ, ¬ SolvesE θ E)) := by
  intro b
  induction b using Nat.strongRecOn with
  | _ b ihb =>
  intro s
  induction s using Nat.strongRecOn with
  | _ s ihs =>
  intro B W δ G hb hs
  rcases List.eq_nil_or_concat W with rfl | ⟨W0, ⟨x, y⟩, rfl⟩
  · exact ⟨0, _, .done, .inl ⟨B, δ, rfl, G⟩⟩
  rw [List.concat_eq_append] at G hs ⊢
  have hw := G.wlo (x, y) (by simp)
  obtain ⟨j1, x', hx⟩ := G.mg.sol.fin x
  obtain ⟨j2, y', hy⟩ := G.mg.sol.fin y
  have ex := hx.sub G.mg.sol
  have ey := hy.sub G.mg.sol
  have dx := hx.dep G.mg.sol hw.2.1
  have dy := hy.dep G.mg.sol hw.2.2
  have lx := hx.lo G.blo hw.1.1
  have ly := hy.lo G.blo hw.1.2
  have wl0 : ∀ p ∈ W0, (p.1.lo 7 ∧ p.2.lo 7) ∧ p.1.dep ≤ 3 ∧ p.2.dep ≤ 3 := fun p hp => G.wlo p (by simp [hp])
  have ln0 : ∀ i p, W0[i]? = some p → i + (p.1.sub δ).dep ≤ 100 * (1 + B.length) := fun i p hp => by
    have hi := (List.getElem?_eq_some_iff.mp hp).1
    exact G.len i p (by rw [List.getElem?_append_left hi]; exact hp)
  have hsub : ∀ θ, SolvesB θ B → x.sub θ = x'.sub θ ∧ y.sub θ = y'.sub θ := fun θ h =>
    ⟨by rw [← G.mg.sub h x, ex, G.mg.sub h x'], by rw [← G.mg.sub h y, ey, G.mg.sub h y']⟩
  have hpos : 0 < (x.sub δ).sz := (x.sub δ).sz_pos
  rw [tot_snoc] at hs
  dsimp only at hs
  have hB := G.blen
  have hlen0 : W0.length ≤ 5000 := by
    exact Nat.le_trans (Nat.le_add_right _ _) (Nat.le_trans (G.len W0.length (x, y) (by simp)) (Nat.le_trans (Nat.mul_le_mul_left 100 (Nat.add_le_add_left hB 1)) (by decide)))
  by_cases hxy : x' = y'
  · -- nothing to do
    have G' : GS E B W0 δ := ⟨G.mg.work fun θ h => by
      rw [solvesE_snoc]
      exact ⟨fun a => a.1, fun a => ⟨a, by show x.sub θ = y.sub θ; rw [(hsub θ h).1, (hsub θ h).2, hxy]⟩⟩, G.keys, G.klt, G.blo, wl0, ln0⟩
    obtain ⟨n, r, h1, h2⟩ := ihs (tot δ W0) (by rw [← hs]; exact Nat.lt_add_of_pos_right (Nat.add_pos_left hpos _)) B W0 δ G' hb rfl
    exact ⟨n + 1, r, .same hx hy hxy dx h1, h2⟩
  by_cases hv : isV x' = true ∨ isV y' = true
  · -- a variable is bound
    obtain ⟨k, u, hk, hku, hne, hu3, hul, hsw⟩ : ∃ k u, swapT x' y' = (.v k, u) ∧ lookK k B = none ∧ u ≠ .v k ∧ u.dep ≤ 3 ∧ u.lo 7 ∧ k < 7 ∧ ∀ θ : Nat → T, (x'.sub θ = y'.sub θ ↔ θ k = u.sub θ) := by
      rcases swap_cases x' y' with ⟨h1, h2⟩ | ⟨h1, h2, h3⟩
      · have hx' : isV x' = true := by
          cases hc : isV x' with
          | true => rfl
          | false => rcases hv with h | h
                     · rw [hc] at h; cases h
                     · exact absurd ⟨hc, h⟩ h2
        obtain ⟨k, rfl⟩ := isV_of hx'
        exact ⟨k, y', h1, hx.out k rfl, Ne.symm hxy, dy, ly, lx, fun θ => Iff.rfl⟩
      · obtain ⟨k, rfl⟩ := isV_of h3
        exact ⟨k, x', h1, hy.out k rfl, hxy, dx, lx, ly, fun θ => ⟨fun h => h.symm, fun h => h.symm⟩⟩
    obtain ⟨hk7, hsw⟩ := hsw
    have Mw : MG E B (W0 ++ [(.v k, u)]) δ := G.mg.work fun θ h => by
      rw [solvesE_snoc, solvesE_snoc]
      have : x.sub θ = y.sub θ ↔ θ k = u.sub θ := by rw [(hsub θ h).1, (hsub θ h).2]; exact hsw θ
      exact ⟨fun a => ⟨a.1, this.mp a.2⟩, fun a => ⟨a.1, this.mpr a.2⟩⟩
    have hud := G.dep hu3
    by_cases ho : (u.sub δ).occ k
    · refine ⟨1, none, .occ hx hy hxy dx dy hk hku G.mg.sol (Nat.le_trans hud (by decide)) ho, .inr ⟨rfl, fun θ hθ => ?_⟩⟩
      obtain ⟨a, b⟩ := (Mw.eqv θ).mp hθ
      have hb := (solvesE_snoc.mp b).2
      have e1 : θ k = u.sub θ := hb
      rw [← Mw.sub a u] at e1
      have hne2 : u.sub δ ≠ .v k := fun e => by
        cases u with
        | v m =>
          have hm : lookK m B = none := by
            rcases swap_cases x' y' with ⟨h1, h2⟩ | ⟨h1, h2, h3⟩
            · rw [h1] at hk; cases hk; exact hy.out m rfl
            · rw [h1] at hk; cases hk; exact hx.out m rfl
          have : δ m = .v m := G.mg.free m hm
          have e' : δ m = .v k := e
          rw [this] at e'
          exact hne e'
        | _ => cases e
      have := occ_lt (θ := θ) ho hne2
      rw [← e1] at this
      exact Nat.lt_irrefl _ this
    · have M2 := Mw.bind hku ho hu3
      have hn : B.length < 7 := by
        have hkk := look_none hku
        have := pigeon 7 (k :: B.map (·.1)) (List.nodup_cons.mpr ⟨hkk, G.keys⟩) fun z hz => by
          rcases List.mem_cons.mp hz with rfl | hz
          · exact hk7
          · obtain ⟨p, hp, rfl⟩ := List.mem_map.mp hz
            exact G.klt p hp
        have h2 := this
        rw [List.length_cons, List.length_map] at h2
        exact h2
      have hnd : ((B ++ [(k, u)]).map (·.1)).Nodup := by
        rw [List.map_append, List.nodup_append]
        refine ⟨G.keys, by simp, fun a ha b hb' => ?_⟩
        have : b = k := by simpa using hb'
        rw [this]
        exact fun e => look_none hku (e ▸ ha)
      have hbl : (B ++ [(k, u)]).length = B.length + 1 := by simp
      have G2 : GS E (B ++ [(k, u)]) W0 (fun n => (δ n).sub fun m => if m = k then u.sub δ else .v m) := by
        have MD := M2
        refine ⟨MD, hnd, fun p hp => ?_, fun n t ht => ?_, wl0, fun i p hp => ?_⟩
        · rcases List.mem_append.mp hp with hp | hp
          · exact G.klt p hp
          · rw [List.mem_singleton.mp hp]; exact hk7
        · rw [look_more hku] at ht
          by_cases e : n = k
          · rw [if_pos e] at ht; cases ht; exact hul
          · rw [if_neg e] at ht; exact G.blo n t ht
        · have h1 := ln0 i p hp
          have h2 := (wl0 p (List.mem_of_getElem? hp)).2.1
          have h3 := sub_dep (δ := fun n => (δ n).sub fun m => if m = k then u.sub δ else .v m) (D := 3 * (B.length + 1)) (t := p.1) fun m _ => by
            have := MD.dep m
            rw [hbl] at this
            exact this
          rw [hbl]
          exact (Nat.add_le_add (Nat.le_trans (Nat.le_add_right i _) h1) (Nat.le_trans h3 (Nat.le_trans (Nat.add_le_add h2 (Nat.mul_le_mul_left 3 hn)) (by decide))) : _ ≤ 100 * (1 + B.length) + 100)
      obtain ⟨b', hb'⟩ := Nat.le.dest hn
      have eb : b = 1 + b' := Nat.add_left_cancel (hb.trans ((show B.length + 1 + b' = 7 from hb').symm.trans (Nat.add_assoc ..)))
      obtain ⟨n, r, h1, h2⟩ := ihb b' (by rw [eb]; exact Nat.lt_add_of_pos_left Nat.one_pos) _ (B ++ [(k, u)]) W0 _ G2 (by rw [hbl]; exact hb') rfl
      exact ⟨n + 1, r, .bind hx hy hxy dx dy hk hku G.mg.sol (Nat.le_trans hud (by decide)) ho h1 (Nat.lt_trans hn (by decide)), h2⟩
  · have hvx : isV x' = false := by
      cases h : isV x' with
      | true => exact absurd (.inl h) hv
      | false => rfl
    have hvy : isV y' = false := by
      cases h : isV y' with
      | true => exact absurd (.inr h) hv
      | false => rfl
    by_cases hd : x'.mark = "s" ∧ y'.mark = "s" ∧ x'.fnum = y'.fnum
    · obtain ⟨m1, m2, m3⟩ := hd
      have s1 := args_sz (δ := δ) m1
      have s2 := args_sz (δ := δ) m2
      have hz : ∀ p ∈ x'.args.zip y'.args, p.1 ∈ x'.args ∧ p.2 ∈ y'.args := fun p hp => ⟨(List.of_mem_zip hp).1, (List.of_mem_zip hp).2⟩
      have ht2 : tot δ (x'.args.zip y'.args) < (x.sub δ).sz + (y.sub δ).sz := by
        rw [ex, ey]
        rcases same_fun m1 m2 m3 with ⟨p, q, rfl, rfl⟩ | ⟨d, p1, p2, q1, q2, rfl, rfl⟩
        · simp [tot, T.args, T.sub, T.sz]; omega
        · simp [tot, T.args, T.sub, T.sz]; omega
      have G2 : GS E B (W0 ++ x'.args.zip y'.args) δ := by
        refine ⟨G.mg.work fun θ h => ?_, G.keys, G.klt, G.blo, fun p hp => ?_, fun i p hp => ?_⟩
        · rw [solvesE_snoc]
          have e : x.sub θ = y.sub θ ↔ ∀ p ∈ x'.args.zip y'.args, p.1.sub θ = p.2.sub θ := by
            rw [(hsub θ h).1, (hsub θ h).2]; exact dec_iff m1 m2 m3
          constructor
          · rintro ⟨a, b⟩ p hp
            rcases List.mem_append.mp hp with hp | hp
            · exact a p hp
            · exact e.mp b p hp
          · intro a
            exact ⟨fun p hp => a p (by simp [hp]), e.mpr fun p hp => a p (by simp [hp])⟩
        · rcases List.mem_append.mp hp with hp | hp
          · exact wl0 p hp
          · obtain ⟨a, b⟩ := hz p hp
            exact ⟨⟨args_lo lx _ a, args_lo ly _ b⟩, Nat.le_trans (Nat.le_of_lt (args_dep0 _ a)) dx, Nat.le_trans (Nat.le_of_lt (args_dep0 _ b)) dy⟩
        · rcases Nat.lt_or_ge i W0.length with hi | hi
          · rw [List.getElem?_append_left hi] at hp
            exact ln0 i p hp
          · rw [List.getElem?_append_right hi] at hp
            have hm := List.mem_of_getElem? hp
            have d1 := args_dep δ (hz p hm).1
            have h4 := G.len W0.length (x, y) (by simp)
            have h5 := (List.getElem?_eq_some_iff.mp hp).1
            have h6 := args_len x'
            rw [List.length_zip] at h5
            dsimp only at h4
            rw [ex] at h4
            have h7 : i ≤ W0.length + 1 := Nat.sub_le_iff_le_add'.mp (Nat.le_of_lt_succ (Nat.lt_of_lt_of_le h5 (Nat.le_trans (Nat.min_le_left ..) h6)))
            exact Nat.le_trans (Nat.add_le_add_right h7 _) (Nat.le_trans (by rw [Nat.add_assoc, Nat.add_comm 1]; exact Nat.add_le_add_left d1 _) h4)
      obtain ⟨n, r, h1, h2⟩ := ihs (tot δ (W0 ++ x'.args.zip y'.args)) (by rw [tot_append, ← hs]; exact Nat.add_lt_add_left ht2 _) B _ δ G2 hb rfl
      exact ⟨n + 1, r, .dec hx hy hxy dx dy m1 m2 m3 hlen0 h1, h2⟩
    · refine ⟨1, none, .clash hx hy hxy dx dy hvx hvy hd, .inr ⟨rfl, fun θ hθ => ?_⟩⟩
      obtain ⟨a, b⟩ := (G.mg.eqv θ).mp hθ
      have hb := (solvesE_snoc.mp b).2
      dsimp only at hb
      rw [(hsub θ a).1, (hsub θ a).2] at hb
      exact clash_no hvx hvy hxy hd hb
theorem GS.start {E : List (T × T)} (h : ∀ p ∈ E, (p.1.lo 7 ∧ p.2.lo 7) ∧ p.1.dep ≤ 3 ∧ p.2.dep ≤ 3) (hl : E.length ≤ 2) : GS E [] E .v :=
  ⟨MG.start E, List.nodup_nil, fun _ h => (nomatch h), fun _ _ h => (nomatch h), h, fun i p hp => by
    have h1 := (h p (List.mem_of_getElem? hp)).2.1
    have h2 := (List.getElem?_eq_some_iff.mp hp).1
    rw [T.sub_v]
    exact Nat.le_trans (Nat.add_le_add (Nat.le_of_lt (Nat.lt_of_lt_of_le h2 hl)) h1) (by decide)⟩
end
noncomputable def encN (key : Nat → Int) : Nat → List Nat → List (Int × Dt)
  | _, [] => []
  | i, n :: L => (key n, .int i) :: encN key (i + 1) L
theorem encN_len (key : Nat → Int) : ∀ (i : Nat) (L : List Nat), (encN key i L).length = L.length
  | _, [] => rfl
  | i, n :: L => by simp only [encN, List.length_cons, encN_len key (i + 1) L]
theorem look_encN {key : Nat → Int} {n : Nat} : ∀ {i : Nat} {L : List Nat}, (∀ m ∈ L, key m = key n → m = n) → lookK (key n) (encN key i L) = if n ∈ L then some (.int ((i + L.idxOf n : Nat) : Int)) else none
  | i, [], _ => by simp [encN, lookK]
  | i, m :: L, h => by
    simp only [encN, lookK]
    by_cases e : key m = key n
    · have := h m List.mem_cons_self e
      subst this
      rw [if_pos rfl, if_pos List.mem_cons_self]
      simp
    · have hne : m ≠ n := fun z => e (by rw [z])
      rw [if_neg e, look_encN fun x hx => h x (List.mem_cons_of_mem _ hx)]
      have hb : (m == n) = false := by rw [beq_eq_false_iff_ne]; exact hne
      by_cases hm : n ∈ L
      · rw [if_pos hm, if_pos (List.mem_cons_of_mem _ hm), List.idxOf_cons, hb]
        simp; omega
      · rw [if_neg hm, if_neg (by simp [hm, Ne.symm hne])]
theorem put_encN {key : Nat → Int} {n : Nat} : ∀ {i : Nat} {L : List Nat}, (∀ m ∈ L, key m ≠ key n) → putK (key n) (.int ((i + L.length : Nat) : Int)) (encN key i L) = encN key i (L ++ [n])
  | i, [], _ => by simp [encN, putK]
  | i, m :: L, h => by
    simp only [encN, putK, List.cons_append]
    rw [if_neg (h m List.mem_cons_self)]
    have := put_encN (i := i + 1) (L := L) fun x hx => h x (List.mem_cons_of_mem _ hx)
    rw [← this, List.length_cons]
    congr 4; omega
noncomputable def GoodL (L : List Nat) : Prop := L.Nodup ∧ ∀ x ∈ L, x < 7
theorem GoodL.len {L : List Nat} (h : GoodL L) : L.length ≤ 7 := pigeon 7 L h.1 h.2
theorem GoodL.snoc {L : List Nat} {n : Nat} (h : GoodL L) (hn : n ∉ L) (h7 : n < 7) : GoodL (L ++ [n]) := by
  refine ⟨?_, fun x hx => ?_⟩
  · rw [List.nodup_append]
    exact ⟨h.1, by simp, fun a ha b hb => by rw [List.mem_singleton.mp hb]; exact fun e => hn (e ▸ ha)⟩
  · rcases List.mem_append.mp hx with hx | hx
    · exact h.2 x hx
    · rw [List.mem_singleton.mp hx]; exact h7
end
section
open PySem PySem.W PyProof.Rows
noncomputable def encE (p : T × T) : Dt := .tup [p.1.enc, p.2.enc]
noncomputable def Raw3 (W : List (T × T)) : Prop := ∀ p ∈ W, p.1.dep ≤ 3 ∧ p.2.dep ≤ 3
theorem encE_plains : ∀ ts : List (T × T), Dt.plains (ts.map encE) = true
  | [] => rfl
  | p :: ts => and_t (and_t p.1.enc_plain (and_t p.2.enc_plain rfl)) (encE_plains ts)
theorem encE_depths : ∀ {ts : List (T × T)}, Raw3 ts → Dt.depths (ts.map encE) ≤ 2000
  | [], _ => Nat.zero_le _
  | p :: ts, h => Nat.max_le.mpr ⟨Nat.succ_le_succ (Nat.max_le.mpr ⟨le7 (h p (.head _)).1, Nat.max_le.mpr ⟨le7 (h p (.head _)).2, Nat.zero_le _⟩⟩), encE_depths fun u hu => h u (.tail _ hu)⟩
where le7 {t : T} (h : t.dep ≤ 3) : t.enc.depth ≤ 1999 := Nat.le_trans t.enc_depth (Nat.le_trans (Nat.succ_le_succ (Nat.mul_le_mul_left 2 h)) (by decide))
theorem encE_oks {ts : List (T × T)} (h : Raw3 ts) : Dt.oks (ts.map encE) := ⟨encE_plains ts, encE_depths h⟩
theorem putK_none {k : Nat} {d : T} : ∀ {B : List (Nat × T)}, lookK k B = none → putK (k : Int) d.enc (encB B) = encB (B ++ [(k, d)])
  | [], _ => rfl
  | p :: B, h => by
    have h : (if p.1 = k then some p.2 else lookK k B) = none := h
    show (if (p.1 : Int) = k then ((p.1 : Int), d.enc) :: encB B else ((p.1 : Int), p.2.enc) :: putK (k : Int) d.enc (encB B)) = _
    by_cases e : p.1 = k
    · rw [if_pos e] at h; cases h
    · rw [if_neg e] at h
      rw [if_neg (fun z => e (Int.ofNat.inj z) : ¬ ((p.1 : Int) = k)), putK_none h]; rfl
theorem zip_enc : ∀ (a b : List T), ((encs a).zip (encs b)).map (fun p => (Dt.tup [p.1, p.2] : Dt)) = (a.zip b).map encE
  | [], _ => rfl
  | _ :: _, [] => rfl
  | x :: a, y :: b => congrArg (encE (x, y) :: ·) (zip_enc a b)
theorem isV_mark {t : T} (h : isV t = false) : ¬ t.mark = "v" := fun e => by
  obtain ⟨n, rfl⟩ := mark_v e
  cases h
theorem notV {t : T} (h : t.mark = "s") : isV t = false := by
  cases T.cmp' h with
  | u e => rw [e]; rfl
  | b e => rw [e]; rfl
inductive TurnC (n : Nat) (B : List (Nat × T)) (W0 : List (T × T)) (r : Option (List (Nat × T))) (s' t' : T) : Prop
  | same {m : Nat} (e : s' = t') (hm : m < n) (h : SolveN m B W0 r) : TurnC n B W0 r s' t'
  | occ {k : Nat} {u : T} {δ : Nat → T} (ne : s' ≠ t') (sw : swapT s' t' = (.v k, u)) (lk : lookK k B = none) (S : Sol B δ) (dd : (u.sub δ).dep ≤ 500) (yes : (u.sub δ).occ k) (hr : r = none) : TurnC n B W0 r s' t'
  | bnd {k m : Nat} {u : T} {δ : Nat → T} (ne : s' ≠ t') (sw : swapT s' t' = (.v k, u)) (lk : lookK k B = none) (S : Sol B δ) (dd : (u.sub δ).dep ≤ 500) (no : ¬ (u.sub δ).occ k) (bl : B.length < 100) (hm : m < n) (h : SolveN m (B ++ [(k, u)]) W0 r) : TurnC n B W0 r s' t'
  | dec {m : Nat} (ne : s' ≠ t') (m1 : s'.mark = "s") (m2 : t'.mark = "s") (m3 : s'.fnum = t'.fnum) (bl : W0.length ≤ 5000) (hm : m < n) (h : SolveN m B (W0 ++ s'.args.zip t'.args) r) : TurnC n B W0 r s' t'
  | clash (ne : s' ≠ t') (v1 : isV s' = false) (v2 : isV t' = false) (no : ¬ (s'.mark = "s" ∧ t'.mark = "s" ∧ s'.fnum = t'.fnum)) (hr : r = none) : TurnC n B W0 r s' t'
inductive SolvV (n : Nat) (B : List (Nat × T)) (WW : List (T × T)) (r : Option (List (Nat × T))) : Prop
  | nil (h : WW = []) (hr : r = some B) : SolvV n B WW r
  | snoc {W0 : List (T × T)} {s t s' t' : T} {j1 j2 : Nat} (h : WW = W0 ++ [(s, t)]) (e1 : EndN B j1 s s') (e2 : EndN B j2 t t') (d1 : s'.dep ≤ 3) (d2 : t'.dep ≤ 3) (c : TurnC n B W0 r s' t') : SolvV n B WW r
theorem solve_inv {n : Nat} {B : List (Nat × T)} {WW : List (T × T)} {r : Option (List (Nat × T))} (h : SolveN n B WW r) : SolvV n B WW r := by
  cases h with
  | done => exact .nil rfl rfl
  | same a b c d e => exact .snoc rfl a b d (c ▸ d) (.same c (Nat.lt_succ_self _) e)
  | bind a b c d1 d2 sw lk sl dd no nx bl => exact .snoc rfl a b d1 d2 (.bnd c sw lk sl dd no bl (Nat.lt_succ_self _) nx)
  | occ a b c d1 d2 sw lk sl dd yes => exact .snoc rfl a b d1 d2 (.occ c sw lk sl dd yes rfl)
  | dec a b c d1 d2 m1 m2 m3 bl nx => exact .snoc rfl a b d1 d2 (.dec c m1 m2 m3 bl (Nat.lt_succ_self _) nx)
  | clash a b c d1 d2 v1 v2 no => exact .snoc rfl a b d1 d2 (.clash c v1 v2 no rfl)
inductive SolI (w d : Addr) (H2 : AH) (r : Option (List (Nat × T))) (n : Nat) (f : Frm) (H' : AH) : Prop
  | mk {B : List (Nat × T)} {W : List (T × T)} (f1 : f "work" = some (.r w)) (f2 : f "bound" = some (.r d)) (g : Gr [w, d] H2 H') (hw : H' w = some (.lst (W.map encE))) (hd : H' d = some (.di (encB B))) (raw : Raw3 W) (h : SolveN n B W r) : SolI w d H2 r n f H'
theorem def_law_solved : defs (.fn "_law_solved") = some ⟨ps_fn_law_solved, [], ir_fn_law_solved⟩ := by kernel_rfl
theorem sExtZ {C : Oracle} {f : Frm} {H : AH} {r : List IS} {Q : SPost} {o a b : IE} {u : Addr} {ds es gs : List Dt} (ho : ∀ R : Post, R (.r u) H → We C o f H R) (h : H u = some (.lst ds)) (ha : ∀ R : Post, R (.d (.tup es)) H → We C a f H R) (hb : ∀ R : Post, R (.d (.tup gs)) H → We C b f H R)
    (h1 : ds.length + es.length < lim) (h2 : es.length = gs.length) (h3 : 0 < es.length) (q : Wxs C r f (H.set u (.lst (ds ++ (es.zip gs).map fun p => .tup [p.1, p.2]))) Q) : Wxs C (.extZ o a b :: r) f H Q :=
  (ho _ (.mk h (ha _ (hb _ (.mk h h1 h2 h3 q)))) : We C o f H (refLQ fun o H1 => We C a f H1 fun u H2 => We C b f H2 (zipQ o (Wp C r f Q) u)))
noncomputable abbrev restS : List IS := [
    .ife (.cmp .Eq (.loc "one") (.loc "two")) [
      .cnt] [],
    .ife (.cmp .Eq (.sub (.loc "one") (.con (.int 0))) (.con (.str "v"))) [
      .ife (.fn "_law_inside" [(.sub (.loc "one") (.con (.int 1))), (.loc "two"), (.loc "bound")]) [
        .ret (.con .none)] [],
      .ssub (.loc "bound") (.sub (.loc "one") (.con (.int 1))) (.loc "two")] [
      .ife (.andE (.cmp .Eq (.sub (.loc "one") (.con (.int 0))) (.con (.str "s"))) (.andE (.cmp .Eq (.sub (.loc "two") (.con (.int 0))) (.con (.str "s"))) (.cmp .Eq (.sub (.loc "one") (.con (.int 1))) (.sub (.loc "two") (.con (.int 1)))))) [
        .extZ (.loc "work") (.sub (.loc "one") (.con (.int 2))) (.sub (.loc "two") (.con (.int 2)))] [
        .ret (.con .none)]]]
theorem swap_no {s t : T} (h : isV t = false) : swapT s t = (s, t) := if_neg fun e => by rw [h] at e; cases e.2
section
variable {C : Nat → Oracle} {H : AH}
theorem solved_rest (O : Orc C) (k : Nat) {n : Nat} {B : List (Nat × T)} {W0 : List (T × T)} {r : Option (List (Nat × T))} {s' t' x y : T} {w d : Addr} {H2 H4 : AH} {f : Frm} {Q : SPost}
    (hdw : d ≠ w) (ds : s'.dep ≤ 3) (dt : t'.dep ≤ 3) (hT : TurnC n B W0 r s' t') (hsw : swapT s' t' = (x, y)) (hW0 : Raw3 W0)
    (f1 : f "work" = some (.r w)) (f2 : f "bound" = some (.r d)) (f3 : f "one" = some (.d x.enc)) (f4 : f "two" = some (.d y.enc))
    (h1 : H4 w = some (.lst (W0.map encE))) (h2 : H4 d = some (.di (encB B))) (g4 : Gr [w, d] H2 H4) (q1 : ∀ f H', Gr [w, d] H2 H' → r = none → Q (.ret (.d .none)) f H') : Wxs (C (k + 2)) restS f H4 (turnQ (lessI (SolI w d H2 r) n) Q) := by
  obtain ⟨dx, dy, hne⟩ : x.dep ≤ 3 ∧ y.dep ≤ 3 ∧ (x = y ↔ s' = t') := by
    rcases swap_cases s' t' with ⟨e, _⟩ | ⟨e, _⟩ <;> rw [e] at hsw <;> cases hsw
    · exact ⟨ds, dt, Iff.rfl⟩
    · exact ⟨dt, ds, eq_comm⟩
  tb_start
  refine cEqT (Nat.le_trans dx (by decide)) (Nat.le_trans dy (by decide)) (fun e => ?_) fun ne => ?_
  · tb_start
    have heq := hne.mp e
    cases hT with
    | same _ hm h => exact ⟨_, hm, .mk f1 f2 g4 h1 h2 hW0 h⟩
    | occ ne => exact absurd heq ne
    | bnd ne => exact absurd heq ne
    | dec ne => exact absurd heq ne
    | clash ne => exact absurd heq ne
  have hxy : s' ≠ t' := fun h => ne (hne.mpr h)
  tb_start
  cases hT with
  | same e => exact absurd e hxy
  | occ _ sw lk S dd yes hr =>
    rw [sw] at hsw
    cases hsw
    refine ifDT rfl ?_
    tb_start
    refine inside_spec O k S h2 lk dy dd fun H5 z g5 hz => ?_
    rw [hz.mpr yes]
    tb_start
    exact q1 _ _ (g4.tr g5.up0) hr
  | bnd _ sw lk S dd no bl hm hS =>
    rw [sw] at hsw
    cases hsw
    refine ifDT rfl ?_
    tb_start
    refine inside_spec O k S h2 lk dy dd fun H5 z g5 hz => ?_
    have ez : z = false := Bool.eq_false_iff.mpr fun e => no (hz.mp e)
    subst ez
    have nil : ∀ {a : Addr}, a ∉ ([] : List Addr) := fun z => (nomatch z)
    have h25 := g5 d _ nil h2
    have h15 := g5 w _ nil h1
    tb_start
    refine ssDi h25 (by rw [show (encB B).length = B.length from List.length_map ..]; exact Nat.lt_trans bl (by decide)) ?_
    rw [show putK (T.v _).fnum y.enc (encB B) = _ from putK_none lk]
    tb_start
    exact ⟨_, hm, .mk f1 f2 ((g4.tr g5.up0).tr (gr_mem (.tail _ (.head _)))) ((set_ne _ _ (Ne.symm hdw)).trans h15) (set_at _ _ _) hW0 hS⟩
  | dec _ m1 m2 m3 bl hm hS =>
    rw [swap_no (notV m2)] at hsw
    cases hsw
    refine ifDF (isV_mark (notV m1)) ?_
    tb_start
    refine ifDT m1 ?_
    tb_start
    refine ifDT m2 ?_
    tb_start
    refine ifDT m3 (sExtZ (ofLoc f1) h1 (fun R q => eArgs f3 m1 q) (fun R q => eArgs f4 m2 q) ?_ ?_ ?_ ?_)
    · rw [encs_len, List.length_map]
      exact Nat.lt_of_le_of_lt (Nat.add_le_add bl (args_len _)) (by decide)
    · rw [encs_len, encs_len]
      rcases same_fun m1 m2 m3 with ⟨p, q, e1, e2⟩ | ⟨d, p1, p2, q1, q2, e1, e2⟩ <;> rw [e1, e2] <;> rfl
    · rw [encs_len]
      rcases same_fun m1 m2 m3 with ⟨p, q, e1, e2⟩ | ⟨d, p1, p2, q1, q2, e1, e2⟩ <;> rw [e1] <;> exact Nat.succ_pos _
    rw [zip_enc, ← List.map_append]
    refine ⟨_, hm, .mk f1 f2 (g4.tr (gr_mem (.head _))) (set_at _ _ _) ((set_ne _ _ hdw).trans h2) (fun p hp => ?_) hS⟩
    rcases List.mem_append.mp hp with hp | hp
    · exact hW0 p hp
    · exact ⟨Nat.le_trans (Nat.le_of_lt (args_dep0 _ (List.of_mem_zip hp).1)) ds, Nat.le_trans (Nat.le_of_lt (args_dep0 _ (List.of_mem_zip hp).2)) dt⟩
  | clash _ v1 v2 no hr =>
    rw [swap_no v2] at hsw
    cases hsw
    have fin : Wxs (C (k + 2)) [.ret (.con .none)] f H4 (seqQ (C (k + 2)) [] (seqQ (C (k + 2)) [] (turnQ (lessI (SolI w d H2 r) n) Q))) := q1 _ _ g4 hr
    refine ifDF (isV_mark v1) ?_
    tb_start
    by_cases a : s'.mark = "s"
    · refine ifDT a ?_
      tb_start
      by_cases b : t'.mark = "s"
      · refine ifDT b ?_
        tb_start
        exact ifDF (fun c => no ⟨a, b, c⟩) fin
      · exact ifDF b (.f fin)
    · exact ifDF a (.f fin)
set_option tactic.hygienic true in
theorem solved_spec (O : Orc C) (k : Nat) {E : List (T × T)} {a : Addr} {n : Nat} {r : Option (List (Nat × T))} {Q : Post} (h : H a = some (.lst (E.map encE))) (hE : Raw3 E) (hr : SolveN n [] E r)
    (q1 : ∀ H', Gr [] H H' → r = none → Q (.d .none) H') (q2 : ∀ d B H', Gr [] H H' → H' d = some (.di (encB B)) → r = some B → Q (.r d) H') : C (k + 3) (.fn "_law_solved") [.r a] H Q := by
  refine intro1 O def_law_solved fun f f0 => ?_
  refine sAsg (dctI fun d hd => ?_)
  have h1 := keep_new (o' := .di []) h hd
  tb_start
  refine .lst h1 fun w hw => ?_
  have hdw : d ≠ w := ne_new (set_at H d (.di [])) hw
  have hd0 := keep_new (o' := .lst (E.map encE)) (set_at H d (.di [])) hw
  have hw0 := set_at (H.set d (.di [])) w (.lst (E.map encE))
  have g0 : Gr [] H ((H.set d (.di [])).set w (.lst (E.map encE))) := (Gr.new hd).tr (Gr.new hw)
  have hHw : H w = none := (Gr.new (o := .di []) hd).back hw fun z => (nomatch z)
  show Wxs _ _ _ ((H.set d (.di [])).set w (.lst (E.map encE))) _
  generalize (H.set d (.di [])).set w (.lst (E.map encE)) = H2 at g0 hd0 hw0 ⊢
  have gH : ∀ {H3}, Gr [w, d] H2 H3 → Gr [] H H3 := fun g => g0.trans g (List.forall_mem_cons.mpr ⟨.inr hHw, List.forall_mem_cons.mpr ⟨.inr hd, fun _ z => nomatch z⟩⟩)
  refine sWhl (SolI w d H2 r) n (.mk (B := []) (by k_caught0) (by k_caught0) (Gr.refl _ _) hw0 hd0 hE hr) fun n f H' I => ?_
  obtain ⟨f1, f2, g1, h1, h2, hW, hS⟩ := I
  rename_i B W
  tb_start
  intro b hb
  have h1b := keep_new (o' := .lst []) h1 hb
  have h2b := keep_new (o' := .lst []) h2 hb
  have gb : Gr [w, d] H2 (H'.set b (.lst [])) := g1.tr (Gr.new hb).up0
  refine cNeNil h1b (set_at _ _ _) (encE_oks hW) (fun hne => ?_) fun e => ?_
  · generalize H'.set b (.lst []) = H3 at h1b h2b gb ⊢
    cases solve_inv hS with
    | nil e => rw [e] at hne; exact absurd rfl hne
    | snoc e hs ht ds dt hT =>
      rename_i W0 s t s' t' j1 j2
      subst e
      rw [List.map_append] at h1b
      have hd4 := (set_ne H3 (.lst (W0.map encE)) hdw).trans h2b
      have hw4 := set_at H3 w (.lst (W0.map encE))
      have g4 : Gr [w, d] H2 (H3.set w (.lst (W0.map encE))) := gb.tr (gr_mem (.head _))
      tb_start
      refine ePopC (ofLoc f1) h1b ?_
      generalize H3.set w (.lst (W0.map encE)) = H4 at hd4 hw4 g4 ⊢
      refine asg2Of ?_
      tb_start
      refine end_spec O (k + 1) hd4 hs ?_
      tb_start
      refine end_spec O (k + 1) hd4 ht ?_
      have q1' : ∀ (f : Frm) H', Gr [w, d] H2 H' → r = none → seqQ (C (k + 2)) [.ret (.loc "bound")] (retQ Q) (.ret (.d .none)) f H' := fun f H' g hr => q1 H' (gH g) hr
      have hW0 : Raw3 W0 := fun p hp => hW p (List.mem_append_left _ hp)
      have no : ¬ (isV s' = false ∧ isV t' = true) → Wxs (C (k + 2)) restS ((((f.put "one" (.d s.enc)).put "two" (.d t.enc)).put "one" (.d s'.enc)).put "two" (.d t'.enc)) H4 (turnQ (lessI (SolI w d H2 r) n) (seqQ (C (k + 2)) [.ret (.loc "bound")] (retQ Q))) := fun z =>
        solved_rest O k hdw ds dt hT (if_neg z) hW0 (by k_caught0) (by k_caught0) (by k_caught0) (by k_caught0) hw4 hd4 g4 q1'
      tb_start
      refine cMarkN ok_v ?_
      refine ifND (fun z1 => ?_) fun z1 => ?_
      · tb_start
        refine ifD (fun z2 => ?_) fun z2 => ?_
        · refine sAsg2 (eTup (esCons (eLoc (putAt _ _ _) (esCons (eLoc (putNe (by decide) (putAt _ _ _)) (esNil (tup2 (asg2Of (sNilS ?_)))))))))
          refine solved_rest O k hdw ds dt hT (if_pos ⟨Bool.eq_false_iff.mpr fun z => ?_, ?_⟩) hW0 (by k_caught0) (by k_caught0) (by k_caught0) (by k_caught0) hw4 hd4 g4 q1'
          · obtain ⟨m, e⟩ := isV_of z
            subst e
            exact z1 rfl
          · obtain ⟨m, e⟩ := mark_v z2
            rw [e]; rfl
        · exact no fun z => by obtain ⟨m, e⟩ := isV_of z.2; rw [e] at z2; exact z2 rfl
      · exact .f (no fun z => by obtain ⟨m, e⟩ := mark_v z1; rw [e] at z; cases z.1)
  · have e : W = [] := List.map_eq_nil_iff.mp e
    subst e
    tb_start
    cases solve_inv hS with
    | nil _ hr => exact q2 d B _ (gH gb) h2b hr
    | snoc e => exact absurd e.symm (by simp)
end
noncomputable def nkey (n : Nat) : Int := n
theorem nkey_inj {m n : Nat} (h : nkey m = nkey n) : m = n := Int.ofNat.inj h
theorem def_law_whole : defs (.fn "_law_whole") = some ⟨ps_fn_law_whole, [], ir_fn_law_whole⟩ := by kernel_rfl
theorem nums_snoc (t : T) : ∀ (ts : List T) (L : List Nat), nums (ts ++ [t]) L = ((nums ts L).1 ++ [(t.num (nums ts L).2).1], (t.num (nums ts L).2).2)
  | [], L => rfl
  | s :: ts, L => by
    show ((s.num L).1 :: (nums (ts ++ [t]) (s.num L).2).1, (nums (ts ++ [t]) (s.num L).2).2) = _
    rw [nums_snoc t ts]; rfl
theorem nums_len : ∀ (ts : List T) (L : List Nat), (nums ts L).1.length = ts.length
  | [], _ => rfl
  | _ :: ts, L => congrArg Nat.succ (nums_len ts _)
theorem num_re {e : T} (δ : Nat → T) (L : List Nat) (h : e.mark = "s") : (e.sub δ).num L = (e.re (nums (e.args.map (·.sub δ)) L).1, (nums (e.args.map (·.sub δ)) L).2) := by
  cases T.cmp' h with
  | u z => subst z; rfl
  | b z => subst z; rfl
theorem take_snoc {α : Type} {l : List α} {i : Nat} {a : α} (h : l[i]? = some a) : l.take (i + 1) = l.take i ++ [a] := by rw [List.take_add_one, h]; rfl
noncomputable abbrev wnum (δ : Nat → T) (e : T) (L : List Nat) (i : Nat) : List T × List Nat := nums ((e.args.take i).map (·.sub δ)) L
theorem wnum_succ {δ : Nat → T} {e u : T} {L : List Nat} {i : Nat} (h : e.args[i]? = some u) : wnum δ e L (i + 1) = ((wnum δ e L i).1 ++ [((u.sub δ).num (wnum δ e L i).2).1], ((u.sub δ).num (wnum δ e L i).2).2) := by
  unfold wnum
  rw [take_snoc h, List.map_append, List.map_singleton, nums_snoc]
inductive WhI (δ : Nat → T) (e : T) (L : List Nat) (nm : Addr) (H : AH) (i : Nat) (acc : List Dt) (H' : AH) : Prop
  | mk (ea : acc = encs (wnum δ e L i).1) (g : Gr [nm] H H') (hn : H' nm = some (.di (encN nkey 0 (wnum δ e L i).2))) (hL : GoodL (wnum δ e L i).2) : WhI δ e L nm H i acc H'
section
variable {C : Nat → Oracle} {k : Nat} {B : List (Nat × T)} {δ : Nat → T} {d nm : Addr}
theorem whole_body (O : Orc C) (S : Sol B δ) (blo : ∀ n t, lookK n B = some t → t.lo 7) (hdn : d ≠ nm) {D : Nat} (rcs : ∀ {u : T}, (u.sub δ).dep < D → u.lo 7 → u.dep ≤ 3 → ∀ {L : List Nat} {H : AH} {Q : Post}, H d = some (.di (encB B)) → H nm = some (.di (encN nkey 0 L)) → GoodL L →
      (∀ H', Gr [nm] H H' → H' nm = some (.di (encN nkey 0 ((u.sub δ).num L).2)) → GoodL ((u.sub δ).num L).2 → Q (.d ((u.sub δ).num L).1.enc) H') → C (k + 1) (.fn "_law_whole") [.d u.enc, .r d, .r nm] H Q)
    {t : T} {L : List Nat} {H : AH} {Q : Post} (hD : (t.sub δ).dep ≤ D) (h7 : t.lo 7) (h3 : t.dep ≤ 3) (hd : H d = some (.di (encB B))) (hn : H nm = some (.di (encN nkey 0 L))) (hL : GoodL L)
    (q : ∀ H', Gr [nm] H H' → H' nm = some (.di (encN nkey 0 ((t.sub δ).num L).2)) → GoodL ((t.sub δ).num L).2 → Q (.d ((t.sub δ).num L).1.enc) H') : C (k + 2) (.fn "_law_whole") [.d t.enc, .r d, .r nm] H Q := by
  refine intro3 O def_law_whole (by decide) (by decide) (by decide) fun f f1 f2 f3 => ?_
  obtain ⟨j, e, he⟩ := S.fin t
  have her := he.dep S h3
  have hel := he.lo blo h7
  rw [he.sub S] at hD q
  tb_start
  refine end_spec O k hd he ?_
  tb_start
  refine ifD (fun hm => ?_) (fun hm => ?_)
  · obtain ⟨n, z⟩ := mark_v hm
    subst z
    have hδ : (T.v n).sub δ = .v n := S.free n (he.out n rfl)
    rw [hδ] at q
    have hkinj : ∀ m ∈ L, nkey m = nkey n → m = n := fun m _ h => nkey_inj h
    have hlk := look_encN (i := 0) hkinj
    tb_start
    by_cases hm : n ∈ L
    · rw [if_pos hm] at hlk
      rw [show (T.v n).num L = (.v (L.idxOf n), L) from if_pos hm] at q
      refine ninDi hn (fun z => absurd (z.symm.trans hlk) fun z => nomatch z) fun dd _ => ?_
      tb_start
      refine subDi hn hlk ?_
      rw [Nat.zero_add]
      tb_start
      exact q H (Gr.refl _ _) hn hL
    · rw [if_neg hm] at hlk
      rw [show (T.v n).num L = (.v L.length, L ++ [n]) from if_neg hm] at q
      refine ninDi hn (fun _ => ?_) fun dd z => absurd (z.symm.trans hlk) fun z => nomatch z
      have hput := put_encN (key := nkey) (n := n) (i := 0) (L := L) fun m hm' e => hm (nkey_inj e ▸ hm')
      rw [Nat.zero_add] at hput
      tb_start
      refine ssDi hn (by rw [encN_len]; exact Nat.lt_of_le_of_lt hL.len (by decide)) ?_
      rw [encN_len, show putK (T.v n).fnum (.int (L.length : Int)) (encN nkey 0 L) = _ from hput]
      have hlk2 := look_encN (key := nkey) (n := n) (i := 0) (L := L ++ [n]) fun m _ h => nkey_inj h
      rw [if_pos (List.mem_append_right _ (.head _)), Nat.zero_add, show (L ++ [n]).idxOf n = L.length by rw [List.idxOf_append, if_neg hm, List.idxOf_cons_self, Nat.zero_add]] at hlk2
      tb_start
      refine subDi (set_at _ _ _) hlk2 ?_
      tb_start
      exact q _ Gr.set (set_at _ _ _) (hL.snoc hm hel)
  tb_start
  refine ifD (fun hs => ?_) (fun hs => ?_)
  · rw [num_re δ L hs] at q
    tb_start
    refine lcTup (WhI δ e L nm H) (.mk rfl (Gr.refl _ _) hn hL) (fun i acc H' dd hdd I => ?_) fun acc H' I => ?_
    · obtain ⟨ea, g, hn', hL'⟩ := I
      subst ea
      rw [show (encs e.args)[i]? = (e.args[i]?).map T.enc from List.getElem?_map ..] at hdd
      obtain ⟨u, hu, z⟩ := Option.map_eq_some_iff.mp hdd
      subst z
      have hm := List.mem_of_getElem? hu
      have hi := (List.getElem?_eq_some_iff.mp hu).1
      tb_start
      refine rcs (Nat.lt_of_lt_of_le (args_dep δ hm) hD) (args_lo hel u hm) (Nat.le_trans (Nat.le_of_lt (args_dep0 u hm)) her) (g d _ (fun z => hdn (List.mem_singleton.mp z)) hd) hn' hL' fun H2 g2 hn2 hL2 => ?_
      have ew := wnum_succ (δ := δ) (L := L) hu
      refine .mk ?_ (.mk (by rw [encs_snoc, ew]) (g.tr g2) (by rw [ew]; exact hn2) (by rw [ew]; exact hL2))
      rw [encs_len, nums_len, List.length_map]
      exact Nat.lt_of_le_of_lt (List.length_take_le' ..) (Nat.lt_of_le_of_lt (args_len e) (by decide))
    · obtain ⟨ea, g, hn', hL'⟩ := I
      subst ea
      have et : wnum δ e L (encs e.args).length = nums (e.args.map (·.sub δ)) L := by unfold wnum; rw [encs_len, List.take_length]
      rw [et] at hn' hL' ⊢
      refine tuplNew fun a ha => ?_
      tb_start
      rw [← re_enc hs (by rw [nums_len, List.length_map])]
      exact q _ (g.tr (Gr.new ha).up0) (keep_new hn' ha) hL'
  · tb_start
    have eq : (e.sub δ).num L = (e, L) := by
      cases e with
      | v n => exact absurd rfl hm
      | a n => rfl
      | i n => rfl
      | u _ => exact absurd rfl hs
      | b _ _ _ => exact absurd rfl hs
    rw [eq] at q
    exact q H (Gr.refl _ _) hn hL
theorem whole_spec (O : Orc C) (S : Sol B δ) (blo : ∀ n t, lookK n B = some t → t.lo 7) (hdn : d ≠ nm) (D k : Nat) {t : T} {L : List Nat} {H : AH} {Q : Post} (hD : (t.sub δ).dep ≤ D) (h7 : t.lo 7) (h3 : t.dep ≤ 3) (hd : H d = some (.di (encB B))) (hn : H nm = some (.di (encN nkey 0 L))) (hL : GoodL L)
    (q : ∀ H', Gr [nm] H H' → H' nm = some (.di (encN nkey 0 ((t.sub δ).num L).2)) → GoodL ((t.sub δ).num L).2 → Q (.d ((t.sub δ).num L).1.enc) H') : C (k + D + 2) (.fn "_law_whole") [.d t.enc, .r d, .r nm] H Q := by
  induction D generalizing t L H Q with
  | zero => exact whole_body O S blo hdn (fun h => absurd h (Nat.not_lt_zero _)) hD h7 h3 hd hn hL q
  | succ D ih => exact whole_body O S blo hdn (fun h h7 h3 L H Q hd hn hL q => ih (Nat.le_of_lt_succ h) h7 h3 hd hn hL q) hD h7 h3 hd hn hL q
end
set_option genInjectivity true in
inductive Ce where
  | ref (n : Nat)
  | srf (n : Nat)
  | str (n : Nat)
  | lis (n : Nat)
  | con (n : Nat)
  | int (z : Int)
  | fn (n : Nat)
noncomputable def Ce.tag : Ce → Int
  | .ref _ => 0
  | .srf _ => 1
  | .str _ => 2
  | .lis _ => 3
  | .con _ => 4
  | .int _ => 5
  | .fn _ => 6
noncomputable def Ce.val : Ce → Int
  | .ref n => n
  | .srf n => n
  | .str n => n
  | .lis n => n
  | .con n => n
  | .int z => z
  | .fn n => n
noncomputable def Ce.enc (c : Ce) : Dt := .tup [.int c.tag, .int c.val]
noncomputable def Ce.dec (t v : Int) : Ce := if t = 0 then .ref v.toNat else if t = 1 then .srf v.toNat else if t = 2 then .str v.toNat else if t = 3 then .lis v.toNat else if t = 4 then .con v.toNat else if t = 5 then .int v else .fn v.toNat
theorem Ce.dec_eq (c : Ce) : Ce.dec c.tag c.val = c := by cases c <;> rfl
theorem Ce.ext {c d : Ce} (h1 : c.tag = d.tag) (h2 : c.val = d.val) : c = d := by rw [← c.dec_eq, ← d.dec_eq, h1, h2]
theorem Ce.enc_inj {c d : Ce} (h : c.enc = d.enc) : c = d := by
  injection h with h
  injection h with h1 h
  injection h with h2
  injection h1 with h1
  injection h2 with h2
  exact Ce.ext h1 h2
theorem sub_tag (H : AH) (c : Ce) : SubV H (.d c.enc) (.d (.int 0)) (.int c.tag) := .tup (n := 0) (by decide) rfl
theorem sub_val (H : AH) (c : Ce) : SubV H (.d c.enc) (.d (.int 1)) (.int c.val) := .tup (n := 1) (by decide) rfl
theorem Ce.ok (c : Ce) : c.enc.ok := pair_ok _ _
noncomputable def encC (l : List Ce) : List Dt := l.map Ce.enc
theorem encC_get (l : List Ce) (i : Nat) : (encC l)[i]? = (l[i]?).map Ce.enc := List.getElem?_map ..
theorem encC_plains : ∀ l : List Ce, Dt.plains (encC l) = true
  | [] => rfl
  | _ :: l => encC_plains l
theorem encC_depths : ∀ l : List Ce, Dt.depths (encC l) ≤ 2000
  | [] => Nat.zero_le _
  | c :: l => Nat.max_le.mpr ⟨(Ce.ok c).depth, encC_depths l⟩
theorem encC_oks (l : List Ce) : Dt.oks (encC l) := ⟨encC_plains l, encC_depths l⟩
theorem encC_set (l : List Ce) (i : Nat) (c : Ce) : (encC l).set i c.enc = encC (l.set i c) := List.map_set.symm
theorem encC_snoc (l : List Ce) (c : Ce) : encC l ++ [c.enc] = encC (l ++ [c]) := (List.map_append (l₂ := [c])).symm
theorem encC_len (l : List Ce) : (encC l).length = l.length := List.length_map ..
structure SA where
  s : Addr
  dx : Addr
  sy : Addr
  dy : Addr
  fa : Addr
  ha : Addr
  sa : Addr
  ta : Addr
noncomputable def SA.all (A : SA) : List Addr := [A.s, A.dx, A.sy, A.dy, A.fa, A.ha, A.sa, A.ta]
noncomputable def SA.mut (A : SA) : List Addr := [A.dx, A.ha, A.sa, A.ta]
structure Sx where
  heap : List Ce
  stack : List Ce
  trail : List Int
  hb : Int
  bb : Int
noncomputable def SA.fields (A : SA) (hb bb : Int) : List (Str × AV) := [("symbols", .r A.sy), ("max_heap", .d (.int 100000)), ("heap", .r A.ha), ("stack", .r A.sa), ("trail", .r A.ta), ("hb", .d (.int hb)), ("bb", .d (.int bb))]
noncomputable def SA.objs (A : SA) (x : Sx) (tx an nf : Addr) (fs : List Dt) : List (Addr × AO) := [(A.s, .inst .store A.dx), (A.dx, .ns (A.fields x.hb x.bb)), (A.sy, .inst .sym A.dy),
  (A.dy, .ns [("texts", .r tx), ("atom_numbers", .r an), ("functors", .r A.fa), ("functor_numbers", .r nf)]), (A.fa, .lst fs), (A.ha, .lst (encC x.heap)), (A.sa, .lst (encC x.stack)), (A.ta, .lst (iL x.trail))]
inductive StoreH (A : SA) (x : Sx) (H : AH) : Prop
  | mk {tx an nf : Addr} {fs : List Dt} {a b : Dt} (hv : Hv (A.objs x tx an nf fs) H) (h12 : fs[12]? = some (.tup [a, .int 1])) (h13 : fs[13]? = some (.tup [b, .int 2])) : StoreH A x H
section
variable {A : SA} {x : Sx} {H H' : AH}
theorem StoreH.hv (h : StoreH A x H) : ∃ tx an nf fs, Hv (A.objs x tx an nf fs) H := by cases h with | mk hv _ _ => exact ⟨_, _, _, _, hv⟩
theorem StoreH.s (h : StoreH A x H) : H A.s = some (.inst .store A.dx) := by obtain ⟨_, _, _, _, hv⟩ := h.hv; exact hv.get 0 rfl
theorem StoreH.dx (h : StoreH A x H) : H A.dx = some (.ns (A.fields x.hb x.bb)) := by obtain ⟨_, _, _, _, hv⟩ := h.hv; exact hv.get 1 rfl
theorem StoreH.sy (h : StoreH A x H) : H A.sy = some (.inst .sym A.dy) := by obtain ⟨_, _, _, _, hv⟩ := h.hv; exact hv.get 2 rfl
theorem StoreH.dy (h : StoreH A x H) : ∃ tx an nf : Addr, H A.dy = some (.ns [("texts", .r tx), ("atom_numbers", .r an), ("functors", .r A.fa), ("functor_numbers", .r nf)]) := by obtain ⟨_, _, _, _, hv⟩ := h.hv; exact ⟨_, _, _, hv.get 3 rfl⟩
theorem StoreH.ha (h : StoreH A x H) : H A.ha = some (.lst (encC x.heap)) := by obtain ⟨_, _, _, _, hv⟩ := h.hv; exact hv.get 5 rfl
theorem StoreH.sa (h : StoreH A x H) : H A.sa = some (.lst (encC x.stack)) := by obtain ⟨_, _, _, _, hv⟩ := h.hv; exact hv.get 6 rfl
theorem StoreH.ta (h : StoreH A x H) : H A.ta = some (.lst (iL x.trail)) := by obtain ⟨_, _, _, _, hv⟩ := h.hv; exact hv.get 7 rfl
theorem StoreH.fa (h : StoreH A x H) : ∃ (fs : List Dt) (a b : Dt), H A.fa = some (.lst fs) ∧ fs[12]? = some (.tup [a, .int 1]) ∧ fs[13]? = some (.tup [b, .int 2]) := by cases h with | mk hv h12 h13 => exact ⟨_, _, _, hv.get 4 rfl, h12, h13⟩
theorem StoreH.keep (h : StoreH A x H) (g : ∀ b ∈ A.all, ∀ o, H b = some o → H' b = some o) : StoreH A x H' := by cases h with | mk hv h12 h13 => exact ⟨hv.keep g, h12, h13⟩
theorem StoreH.has (h : StoreH A x H) : ∀ b ∈ A.all, ∃ o, H b = some o := by obtain ⟨_, _, _, _, hv⟩ := h.hv; exact fun b hb => hv.has hb
theorem StoreH.gr {ms : List Addr} (h : StoreH A x H) (g : Gr ms H H') (hm : ∀ b ∈ A.all, b ∉ ms) : StoreH A x H' := h.keep fun b hb o e => g b o (hm b hb) e
theorem StoreH.gr0 (h : StoreH A x H) (g : Gr [] H H') : StoreH A x H' := h.gr g fun _ _ z => (nomatch z)
theorem StoreH.ne (h : StoreH A x H) {a : Addr} (ha : H a = none) : a ∉ A.all := fun hm => by
  obtain ⟨o, e⟩ := h.has a hm
  rw [ha] at e; cases e
theorem SA.mut_sub {A : SA} {a : Addr} (h : a ∈ A.mut) : a ∈ A.all :=
  (List.Sublist.cons _ (.cons_cons _ (.cons _ (.cons _ (.cons _ (.refl _))))) : A.mut.Sublist A.all).subset h
theorem StoreH.other (h : StoreH A x H) {a : Addr} {o : AO} (ha : a ∉ A.all) : StoreH A x (H.set a o) := h.keep fun b hb o' e => by
  rw [set_ne _ _ (fun z => ha (by rw [← z]; exact hb))]; exact e
theorem StoreH.new (h : StoreH A x H) {a : Addr} {o : AO} (ha : H a = none) : StoreH A x (H.set a o) := h.other (h.ne ha)
theorem StoreH.setHeap (h : StoreH A x H) (l : List Ce) : StoreH A { x with heap := l } (H.set A.ha (.lst (encC l))) := by cases h with | mk hv h12 h13 => exact ⟨hv.upd 5 rfl _, h12, h13⟩
theorem StoreH.setStack (h : StoreH A x H) (l : List Ce) : StoreH A { x with stack := l } (H.set A.sa (.lst (encC l))) := by cases h with | mk hv h12 h13 => exact ⟨hv.upd 6 rfl _, h12, h13⟩
theorem StoreH.setTrail (h : StoreH A x H) (l : List Int) : StoreH A { x with trail := l } (H.set A.ta (.lst (iL l))) := by cases h with | mk hv h12 h13 => exact ⟨hv.upd 7 rfl _, h12, h13⟩
theorem StoreH.setDx (h : StoreH A x H) (hb bb : Int) : StoreH A { x with hb := hb, bb := bb } (H.set A.dx (.ns (A.fields hb bb))) := by cases h with | mk hv h12 h13 => exact ⟨hv.upd 1 rfl _, h12, h13⟩
theorem StoreH.att (h : StoreH A x H) {z : Str} {v : AV} (hl : lookF z (A.fields x.hb x.bb) = some v) : attV H z (.r A.s) v := .mk h.s h.dx hl
theorem StoreH.att_fun (h : StoreH A x H) : attV H "functors" (.r A.sy) (.r A.fa) := by
  obtain ⟨tx, an, nf, h8⟩ := h.dy
  exact .mk h.sy h8 (by kernel_rfl)
theorem StoreH.hget (h : StoreH A x H) {n : Nat} {c : Ce} (hc : x.heap[n]? = some c) : SubV H (.r A.ha) (.d (.int n)) c.enc := .lst h.ha (by rw [encC_get, hc]; rfl)
theorem StoreH.sget (h : StoreH A x H) {n : Nat} {c : Ce} (hc : x.stack[n]? = some c) : SubV H (.r A.sa) (.d (.int n)) c.enc := .lst h.sa (by rw [encC_get, hc]; rfl)
theorem StoreH.hset (h : StoreH A x H) {n : Nat} {c : Ce} {Q : AH → Prop} (hn : n < x.heap.length) (q : Q (H.set A.ha (.lst (encC (x.heap.set n c))))) : setSub H (.r A.ha) (.d (.int n)) (.d c.enc) Q :=
  .lst h.ha (by rw [encC_len]; exact hn) (by rw [encC_set]; exact q)
theorem StoreH.sset (h : StoreH A x H) {n : Nat} {c : Ce} {Q : AH → Prop} (hn : n < x.stack.length) (q : Q (H.set A.sa (.lst (encC (x.stack.set n c))))) : setSub H (.r A.sa) (.d (.int n)) (.d c.enc) Q :=
  .lst h.sa (by rw [encC_len]; exact hn) (by rw [encC_set]; exact q)
theorem gr_dx {o : AO} : Gr A.mut H (H.set A.dx o) := gr_mem (.head _)
theorem gr_ha {o : AO} : Gr A.mut H (H.set A.ha o) := gr_mem (.tail _ (.head _))
theorem gr_sa {o : AO} : Gr A.mut H (H.set A.sa o) := gr_mem (.tail _ (.tail _ (.head _)))
theorem gr_ta {o : AO} : Gr A.mut H (H.set A.ta o) := gr_mem (.tail _ (.tail _ (.tail _ (.head _))))
end
inductive Der (heap stack : List Ce) : Nat → Ce → Ce → Prop
  | val {c : Ce} : 2 ≤ c.tag → Der heap stack 0 c c
  | selfr {n : Nat} : heap[n]? = some (.ref n) → Der heap stack 0 (.ref n) (.ref n)
  | selfs {n : Nat} : stack[n]? = some (.srf n) → Der heap stack 0 (.srf n) (.srf n)
  | ref {n k : Nat} {c e : Ce} : heap[n]? = some c → c ≠ .ref n → Der heap stack k c e → Der heap stack (k + 1) (.ref n) e
  | srf {n k : Nat} {c e : Ce} : stack[n]? = some c → c ≠ .srf n → Der heap stack k c e → Der heap stack (k + 1) (.srf n) e
noncomputable def Sx.bind (x : Sx) : Ce → Ce → Sx
  | .ref n, v => { x with heap := x.heap.set n v, trail := if (n : Int) < x.hb then x.trail ++ [(n : Int)] else x.trail }
  | .srf n, v => { x with stack := x.stack.set n v, trail := if (n : Int) < x.bb then x.trail ++ [-1 - (n : Int)] else x.trail }
  | _, _ => x
section
variable {C : Oracle} {A : SA} {x : Sx} {f : Frm} {H : AH} {Q : Post} {y : Str}
theorem lf_heap (A : SA) (a b : Int) : lookF "heap" (A.fields a b) = some (.r A.ha) := by kernel_rfl
theorem lf_stack (A : SA) (a b : Int) : lookF "stack" (A.fields a b) = some (.r A.sa) := by kernel_rfl
theorem lf_trail (A : SA) (a b : Int) : lookF "trail" (A.fields a b) = some (.r A.ta) := by kernel_rfl
theorem lf_hb (A : SA) (a b : Int) : lookF "hb" (A.fields a b) = some (.d (.int a)) := by kernel_rfl
theorem lf_bb (A : SA) (a b : Int) : lookF "bb" (A.fields a b) = some (.d (.int b)) := by kernel_rfl
theorem lf_max (A : SA) (a b : Int) : lookF "max_heap" (A.fields a b) = some (.d (.int 100000)) := by kernel_rfl
theorem lf_sym (A : SA) (a b : Int) : lookF "symbols" (A.fields a b) = some (.r A.sy) := by kernel_rfl
theorem eField {z : Str} {v : AV} (h : StoreH A x H) (hl : lookF z (A.fields x.hb x.bb) = some v) (hf : f y = some (.r A.s)) (q : Q v H) : We C (.att (.loc y) z) f H Q := eAttL hf (h.att hl) q
theorem eHeap (h : StoreH A x H) (hf : f y = some (.r A.s)) (q : Q (.r A.ha) H) : We C (.att (.loc y) "heap") f H Q := eField h (lf_heap A _ _) hf q
theorem eStack (h : StoreH A x H) (hf : f y = some (.r A.s)) (q : Q (.r A.sa) H) : We C (.att (.loc y) "stack") f H Q := eField h (lf_stack A _ _) hf q
theorem eTrail (h : StoreH A x H) (hf : f y = some (.r A.s)) (q : Q (.r A.ta) H) : We C (.att (.loc y) "trail") f H Q := eField h (lf_trail A _ _) hf q
theorem eHb (h : StoreH A x H) (hf : f y = some (.r A.s)) (q : Q (.d (.int x.hb)) H) : We C (.att (.loc y) "hb") f H Q := eField h (lf_hb A _ _) hf q
theorem eBb (h : StoreH A x H) (hf : f y = some (.r A.s)) (q : Q (.d (.int x.bb)) H) : We C (.att (.loc y) "bb") f H Q := eField h (lf_bb A _ _) hf q
theorem eMax (h : StoreH A x H) (hf : f y = some (.r A.s)) (q : Q (.d (.int 100000)) H) : We C (.att (.loc y) "max_heap") f H Q := eField h (lf_max A _ _) hf q
theorem eMetS {m : Str} {es : List IE} (h : StoreH A x H) (hf : f y = some (.r A.s)) (hm : ∀ a b, lookF m (A.fields a b) = none) (q : Wes C es f H (metR C (.me .store m) A.s Q)) : We C (.met .store (.loc y) m es) f H Q :=
  eMet (ofLoc hf) h.s h.dx (hm _ _) q
theorem tag_srf {c : Ce} (h : c.tag = 1) : ∃ m, c = .srf m := ⟨c.val.toNat, by have e := c.dec_eq; rw [h] at e; exact e.symm⟩
theorem tag_cmp {c : Ce} (h : c.tag = 2 ∨ c.tag = 3) : (∃ a, c = .str a) ∨ ∃ a, c = .lis a := by
  have e := c.dec_eq
  rcases h with h | h <;> rw [h] at e
  · exact .inl ⟨_, e.symm⟩
  · exact .inr ⟨_, e.symm⟩
theorem len_lim {l : List Ce} {n : Nat} (h : l.length < n) (hn : n ≤ lim := by decide) : (encC l).length < lim := by rw [encC_len]; exact Nat.lt_of_lt_of_le h hn
theorem cEqC {c d : Ce} (q : ∀ z : Bool, (z = true ↔ c = d) → Q (.d (.bool z)) H) : cmpQ .Eq (.d c.enc) Q (.d d.enc) H := by
  by_cases e : c = d
  · exact .mk (.eq (.dt c.ok d.ok (z := true) ⟨fun _ => by rw [e], fun _ => rfl⟩)) (q _ ⟨fun _ => e, fun _ => rfl⟩)
  · exact .mk (.eq (.dt c.ok d.ok (z := false) ⟨fun h => (nomatch h), fun h => absurd (Ce.enc_inj h) e⟩)) (q _ ⟨fun h => (nomatch h), fun h => absurd h e⟩)
theorem cEqC' {P1 P2 : AH → Prop} {c d : Ce} (h1 : c = d → P1 H) (h2 : c ≠ d → P2 H) : cmpQ .Eq (.d c.enc) (ifQ P1 P2) (.d d.enc) H := by
  by_cases e : c = d
  · exact .mk (.eq (.dt c.ok d.ok (z := true) ⟨fun _ => by rw [e], fun _ => rfl⟩)) (.t (h1 e))
  · exact .mk (.eq (.dt c.ok d.ok (z := false) ⟨fun h => (nomatch h), fun h => absurd (Ce.enc_inj h) e⟩)) (.f (h2 e))
theorem eTag {c : Ce} (hf : f y = some (.d c.enc)) (q : Q (.d (.int c.tag)) H) : We C (.sub (.loc y) (.con (.int 0))) f H Q := eSub (eLoc hf (eCon (subOf (sub_tag H c) q)))
theorem eVal {c : Ce} (hf : f y = some (.d c.enc)) (q : Q (.d (.int c.val)) H) : We C (.sub (.loc y) (.con (.int 1))) f H Q := eSub (eLoc hf (eCon (subOf (sub_val H c) q)))
theorem lenHeap (h : StoreH A x H) (q : Q (.d (.int x.heap.length)) H) : lenQ Q (.r A.ha) H := .lst h.ha (by rw [encC_len]; exact q)
theorem lenStack (h : StoreH A x H) (q : Q (.d (.int x.stack.length)) H) : lenQ Q (.r A.sa) H := .lst h.sa (by rw [encC_len]; exact q)
theorem lenTrail (h : StoreH A x H) (q : Q (.d (.int x.trail.length)) H) : lenQ Q (.r A.ta) H := .lst h.ta (by rw [iL_len]; exact q)
theorem eAppH {e : IE} (h : StoreH A x H) (hf : f y = some (.r A.s)) (q : We C e f H (appQ A.ha Q)) : We C (.mb (.att (.loc y) "heap") "append" [e]) f H Q := eApp (ofAtt hf (h.att (lf_heap A _ _))) h.ha q
theorem eAppT {e : IE} (h : StoreH A x H) (hf : f y = some (.r A.s)) (q : We C e f H (appQ A.ta Q)) : We C (.mb (.att (.loc y) "trail") "append" [e]) f H Q := eApp (ofAtt hf (h.att (lf_trail A _ _))) h.ta q
theorem appH {c : Ce} (h : StoreH A x H) (hl : x.heap.length < 1000000) (q : ∀ H', Gr A.mut H H' → StoreH A { x with heap := x.heap ++ [c] } H' → Q (.d .none) H') : appQ A.ha Q (.d c.enc) H :=
  appOf h.ha (len_lim hl) (by rw [encC_snoc]; exact q _ gr_ha (h.setHeap _))
theorem appS {c : Ce} (h : StoreH A x H) (hl : x.stack.length < 1000000) (q : ∀ H', Gr A.mut H H' → StoreH A { x with stack := x.stack ++ [c] } H' → Q (.d .none) H') : appQ A.sa Q (.d c.enc) H :=
  appOf h.sa (len_lim hl) (by rw [encC_snoc]; exact q _ gr_sa (h.setStack _))
theorem appT {i : Int} (h : StoreH A x H) (hl : x.trail.length < 1000000) (q : ∀ H', Gr A.mut H H' → StoreH A { x with trail := x.trail ++ [i] } H' → Q (.d .none) H') : appQ A.ta Q (.d (.int i)) H :=
  appOf h.ta (by rw [iL_len]; exact hl) (by rw [iL_snoc]; exact q _ gr_ta (h.setTrail _))
theorem ePopT {us : List Int} {u : Int} (h : StoreH A x H) (hf : f y = some (.r A.s)) (e : x.trail = us ++ [u]) (q : ∀ H', Gr A.mut H H' → StoreH A { x with trail := us } H' → Q (.d (.int u)) H') : We C (.mb (.att (.loc y) "trail") "pop" []) f H Q := by
  have ht := h.ta
  rw [e, ← iL_snoc] at ht
  exact ePopC (ofAtt hf (h.att (lf_trail A _ _))) ht (q _ gr_ta (h.setTrail _))
end
section
variable {A : SA} {x : Sx} {H : AH} {P : AH → Prop} {n : Nat} {v : Ce}
theorem setH (h : StoreH A x H) (hn : n < x.heap.length) (q : ∀ H', Gr A.mut H H' → StoreH A { x with heap := x.heap.set n v } H' → P H') : setSub H (.r A.ha) (.d (.int n)) (.d v.enc) P := h.hset hn (q _ gr_ha (h.setHeap _))
theorem setS (h : StoreH A x H) (hn : n < x.stack.length) (q : ∀ H', Gr A.mut H H' → StoreH A { x with stack := x.stack.set n v } H' → P H') : setSub H (.r A.sa) (.d (.int n)) (.d v.enc) P := h.sset hn (q _ gr_sa (h.setStack _))
end
theorem Der.elim' {hp st : List Ce} {n : Nat} {c e : Ce} {P : Prop} (h : Der hp st n c e) (v : 2 ≤ c.tag → e = c → P)
    (r : ∀ m c', c = .ref m → hp[m]? = some c' → (c' = .ref m → e = c) → (c' ≠ .ref m → ∃ k, k < n ∧ Der hp st k c' e) → P)
    (s : ∀ m c', c = .srf m → st[m]? = some c' → (c' = .srf m → e = c) → (c' ≠ .srf m → ∃ k, k < n ∧ Der hp st k c' e) → P) : P := by
  induction h with
  | val h2 => exact v h2 rfl
  | selfr hm => exact r _ _ rfl hm (fun _ => rfl) (fun h => absurd rfl h)
  | selfs hm => exact s _ _ rfl hm (fun _ => rfl) (fun h => absurd rfl h)
  | ref hm hne ht _ => exact r _ _ rfl hm (fun e => absurd e hne) (fun _ => ⟨_, Nat.lt_succ_self _, ht⟩)
  | srf hm hne ht _ => exact s _ _ rfl hm (fun e => absurd e hne) (fun _ => ⟨_, Nat.lt_succ_self _, ht⟩)
end
local macro_rules | `(tactic| tb_rel) => `(tactic| with_reducible first | (refine eHeap (A := ?_) (x := ?_) ?_ ?_ ?_; rotate_left 2; assumption; k_caught0) | (refine eStack (A := ?_) (x := ?_) ?_ ?_ ?_; rotate_left 2; assumption; k_caught0) | (refine eTrail (A := ?_) (x := ?_) ?_ ?_ ?_; rotate_left 2; assumption; k_caught0) | (refine eTag (c := ?_) ?_ ?_; rotate_left; k_caught0) | (refine eVal (c := ?_) ?_ ?_; rotate_left; k_caught0) | (refine eHb (A := ?_) (x := ?_) ?_ ?_ ?_; rotate_left 2; assumption; k_caught0) | (refine eBb (A := ?_) (x := ?_) ?_ ?_ ?_; rotate_left 2; assumption; k_caught0) | (refine eMax (A := ?_) (x := ?_) ?_ ?_ ?_; rotate_left 2; assumption; k_caught0) | (refine eSym (A := ?_) (x := ?_) ?_ ?_ ?_; rotate_left 2; assumption; k_caught0) | (refine lenHeap (x := ?_) ?_ ?_; rotate_left; assumption) | (refine lenStack (x := ?_) ?_ ?_; rotate_left; assumption) | (refine lenTrail (x := ?_) ?_ ?_; rotate_left; assumption) | (refine eMetS (A := ?_) (x := ?_) ?_ ?_ (fun _ _ => by kernel_rfl) ?_; rotate_left 2; assumption; k_caught0) | (refine eAppH (A := ?_) (x := ?_) ?_ ?_ ?_; rotate_left 2; assumption; k_caught0) | (refine eAppS (A := ?_) (x := ?_) ?_ ?_ ?_; rotate_left 2; assumption; k_caught0) | (refine eAppT (A := ?_) (x := ?_) ?_ ?_ ?_; rotate_left 2; assumption; k_caught0))
section
open PySem PySem.W PyProof.Rows
theorem def_push : defs (.me .store "push") = some ⟨ps_store_push, [], ir_store_push⟩ := by kernel_rfl
theorem def_new_var : defs (.me .store "new_var") = some ⟨ps_store_new_var, [], ir_store_new_var⟩ := by kernel_rfl
theorem def_reserve : defs (.me .store "reserve") = some ⟨ps_store_reserve, [], ir_store_reserve⟩ := by kernel_rfl
theorem def_trim : defs (.me .store "trim") = some ⟨ps_store_trim, [], ir_store_trim⟩ := by kernel_rfl
theorem def_deref : defs (.me .store "deref") = some ⟨ps_store_deref, [], ir_store_deref⟩ := by kernel_rfl
theorem def_bind : defs (.me .store "bind") = some ⟨ps_store_bind, [], ir_store_bind⟩ := by kernel_rfl
theorem def_bind_pair : defs (.me .store "bind_pair") = some ⟨ps_store_bind_pair, [], ir_store_bind_pair⟩ := by kernel_rfl
theorem def_globalise : defs (.me .store "globalise") = some ⟨ps_store_globalise, [], ir_store_globalise⟩ := by kernel_rfl
theorem def_mark : defs (.me .store "mark") = some ⟨ps_store_mark, [], ir_store_mark⟩ := by kernel_rfl
theorem def_undo_to : defs (.me .store "undo_to") = some ⟨ps_store_undo_to, [], ir_store_undo_to⟩ := by kernel_rfl
theorem def_stack_put : defs (.me .store "stack_put") = some ⟨ps_store_stack_put, [], ir_store_stack_put⟩ := by kernel_rfl
theorem def_is_compound : defs (.me .store "is_compound") = some ⟨ps_store_is_compound, [], ir_store_is_compound⟩ := by kernel_rfl
theorem def_functor_of : defs (.me .store "functor_of") = some ⟨ps_store_functor_of, [], ir_store_functor_of⟩ := by kernel_rfl
theorem def_width : defs (.me .store "width") = some ⟨ps_store_width, [], ir_store_width⟩ := by kernel_rfl
theorem def_base : defs (.me .store "base") = some ⟨ps_store_base, [], ir_store_base⟩ := by kernel_rfl
theorem def_new_block : defs (.me .store "new_block") = some ⟨ps_store_new_block, [], ir_store_new_block⟩ := by kernel_rfl
theorem def_put_term : defs (.me .store "put_term") = some ⟨ps_store_put_term, [], ir_store_put_term⟩ := by kernel_rfl
theorem def_take_term : defs (.me .store "take_term") = some ⟨ps_store_take_term, [], ir_store_take_term⟩ := by kernel_rfl
theorem def_store_init : defs (.me .store "__init__") = some ⟨ps_store_init, [.int 100000], ir_store_init⟩ := by kernel_rfl
theorem def_sym_atom : defs (.me .sym "atom") = some ⟨ps_sym_atom, [], ir_sym_atom⟩ := by kernel_rfl
theorem def_sym_functor : defs (.me .sym "functor") = some ⟨ps_sym_functor, [], ir_sym_functor⟩ := by kernel_rfl
theorem def_sym_func : defs (.me .sym "func") = some ⟨ps_sym_func, [], ir_sym_func⟩ := by kernel_rfl
theorem def_sym_arity : defs (.me .sym "arity") = some ⟨ps_sym_arity, [], ir_sym_arity⟩ := by kernel_rfl
theorem def_sym_init : defs (.me .sym "__init__") = some ⟨ps_sym_init, [], ir_sym_init⟩ := by kernel_rfl
theorem def_pairs_init : defs (.me .pairs "__init__") = some ⟨ps_pairs_init, [], ir_pairs_init⟩ := by kernel_rfl
theorem def_pairs_add : defs (.me .pairs "add") = some ⟨ps_pairs_add, [], ir_pairs_add⟩ := by kernel_rfl
theorem def_fixed_atoms : defs (.fn "fixed_atoms") = some ⟨ps_fn_fixed_atoms, [], ir_fn_fixed_atoms⟩ := by kernel_rfl
theorem def_fixed_functors : defs (.fn "fixed_functors") = some ⟨ps_fn_fixed_functors, [], ir_fn_fixed_functors⟩ := by kernel_rfl
theorem def_push_arguments : defs (.fn "push_arguments") = some ⟨ps_fn_push_arguments, [], ir_fn_push_arguments⟩ := by kernel_rfl
theorem def_push_pairs : defs (.fn "push_pairs") = some ⟨ps_fn_push_pairs, [], ir_fn_push_pairs⟩ := by kernel_rfl
theorem def_same_shape : defs (.fn "same_shape") = some ⟨ps_fn_same_shape, [], ir_fn_same_shape⟩ := by kernel_rfl
theorem def_is_variable : defs (.fn "is_variable") = some ⟨ps_fn_is_variable, [], ir_fn_is_variable⟩ := by kernel_rfl
theorem def_unify : defs (.fn "unify") = some ⟨ps_fn_unify, [], ir_fn_unify⟩ := by kernel_rfl
theorem def_bind_checked : defs (.fn "bind_checked") = some ⟨ps_fn_bind_checked, [], ir_fn_bind_checked⟩ := by kernel_rfl
theorem def_trial : defs (.fn "trial") = some ⟨ps_fn_trial, [], ir_fn_trial⟩ := by kernel_rfl
theorem def_occurs_in : defs (.fn "occurs_in") = some ⟨ps_fn_occurs_in, [], ir_fn_occurs_in⟩ := by kernel_rfl
theorem def_law_cell : defs (.fn "_law_cell") = some ⟨ps_fn_law_cell, [], ir_fn_law_cell⟩ := by kernel_rfl
theorem def_law_right : defs (.fn "_law_right") = some ⟨ps_fn_law_right, [], ir_fn_law_right⟩ := by kernel_rfl
section
variable {C : Nat → Oracle} {A : SA} {x : Sx} {H : AH}
theorem tag_ne {c : Ce} (h : 2 ≤ c.tag) : ¬ c.tag = 0 ∧ ¬ c.tag = 1 := ⟨by omega, by omega⟩
structure DerI (A : SA) (x : Sx) (H : AH) (e : Ce) (n : Nat) (f : Frm) (H' : AH) : Prop where
  hh : H' = H
  f1 : f "self" = some (.r A.s)
  d : ∃ c : Ce, f "cell" = some (.d c.enc) ∧ Der x.heap x.stack n c e
theorem deref_spec (O : Orc C) (k : Nat) {n : Nat} {c e : Ce} {Q : Post} (h : StoreH A x H) (hd : Der x.heap x.stack n c e) (q : Q (.d e.enc) H) : C (k + 1) (.me .store "deref") [.r A.s, .d c.enc] H Q := by
  refine intro2 O def_deref (by decide) fun f f1 f2 => ?_
  refine sWhl (DerI A x H e) n ⟨rfl, f1, c, f2, hd⟩ ?_
  rintro n f _ ⟨rfl, f1, c, f2, ht⟩
  tb_start
  refine ht.elim' (fun h2 e => ?_) (fun m c' e hm e1 e2 => ?_) (fun m c' e hm e1 e2 => ?_)
  · refine ifDF (tag_ne h2).1 ?_
    tb_start
    refine ifDF (tag_ne h2).2 ?_
    tb_start
    subst e; exact q
  · subst e
    refine ifDT rfl ?_
    tb_start
    refine subOf (h.hget hm) ?_
    tb_start
    refine cEqC' (fun z => ?_) (fun z => ?_)
    · tb_start
      cases e1 z; exact q
    · tb_start
      obtain ⟨k', hk, hd⟩ := e2 z
      exact ⟨k', hk, rfl, by k_caught0, c', by k_caught0, hd⟩
  · subst e
    refine ifDF (by show ¬ ((1 : Int) = 0); decide) ?_
    tb_start
    refine ifDT rfl ?_
    tb_start
    refine subOf (h.sget hm) ?_
    tb_start
    refine cEqC' (fun z => ?_) (fun z => ?_)
    · tb_start
      cases e1 z; exact q
    · tb_start
      obtain ⟨k', hk, hd⟩ := e2 z
      exact ⟨k', hk, rfl, by k_caught0, c', by k_caught0, hd⟩
theorem bindR1 {n : Nat} {v : Ce} (z : (n : Int) < x.hb) (h : StoreH A { x with heap := x.heap.set n v, trail := x.trail ++ [(n : Int)] } H) : StoreH A (x.bind (.ref n) v) H := by rw [Sx.bind, if_pos z]; exact h
theorem bindR2 {n : Nat} {v : Ce} (z : ¬ (n : Int) < x.hb) (h : StoreH A { x with heap := x.heap.set n v } H) : StoreH A (x.bind (.ref n) v) H := by rw [Sx.bind, if_neg z]; exact h
theorem bindS1 {n : Nat} {v : Ce} (z : (n : Int) < x.bb) (h : StoreH A { x with stack := x.stack.set n v, trail := x.trail ++ [-1 - (n : Int)] } H) : StoreH A (x.bind (.srf n) v) H := by rw [Sx.bind, if_pos z]; exact h
theorem bindS2 {n : Nat} {v : Ce} (z : ¬ (n : Int) < x.bb) (h : StoreH A { x with stack := x.stack.set n v } H) : StoreH A (x.bind (.srf n) v) H := by rw [Sx.bind, if_neg z]; exact h
theorem bind_ref_spec (O : Orc C) (k : Nat) {n : Nat} {v : Ce} {Q : Post} (h : StoreH A x H) (hn : n < x.heap.length) (ht : x.trail.length < 1000)
    (q : ∀ H', Gr A.mut H H' → StoreH A (x.bind (.ref n) v) H' → Q (.d .none) H') : C (k + 1) (.me .store "bind") [.r A.s, .d (Ce.ref n).enc, .d v.enc] H Q := by
  refine intro3 O def_bind (by decide) (by decide) (by decide) fun f f1 f2 f3 => ?_
  tb_start
  refine ifDT rfl ?_
  tb_start
  refine setH h hn fun H2 g2 h2 => ?_
  tb_start
  refine ifD (fun z => ?_) (fun z => ?_)
  · tb_start
    refine appT h2 (Nat.lt_trans ht (by decide)) fun H3 g3 h3 => ?_
    tb_start
    exact q _ (g2.tr g3) (bindR1 z h3)
  · tb_start
    exact q _ g2 (bindR2 z h2)
theorem bind_srf_spec (O : Orc C) (k : Nat) {n : Nat} {v : Ce} {Q : Post} (h : StoreH A x H) (hn : n < x.stack.length) (ht : x.trail.length < 1000)
    (q : ∀ H', Gr A.mut H H' → StoreH A (x.bind (.srf n) v) H' → Q (.d .none) H') : C (k + 1) (.me .store "bind") [.r A.s, .d (Ce.srf n).enc, .d v.enc] H Q := by
  refine intro3 O def_bind (by decide) (by decide) (by decide) fun f f1 f2 f3 => ?_
  tb_start
  refine ifDF (by show ¬ ((1 : Int) = 0); decide) ?_
  tb_start
  refine setS h hn fun H2 g2 h2 => ?_
  tb_start
  refine ifD (fun z => ?_) (fun z => ?_)
  · tb_start
    refine appT h2 (Nat.lt_trans ht (by decide)) fun H3 g3 h3 => ?_
    tb_start
    exact q _ (g2.tr g3) (bindS1 z h3)
  · tb_start
    exact q _ g2 (bindS2 z h2)
noncomputable def Sx.isVar (x : Sx) : Ce → Prop
  | .ref n => n < x.heap.length
  | .srf n => n < x.stack.length
  | _ => False
theorem bind_spec (O : Orc C) (k : Nat) {c v : Ce} {Q : Post} (h : StoreH A x H) (hn : x.isVar c) (ht : x.trail.length < 1000)
    (q : ∀ H', Gr A.mut H H' → StoreH A (x.bind c v) H' → Q (.d .none) H') : C (k + 1) (.me .store "bind") [.r A.s, .d c.enc, .d v.enc] H Q := by
  cases c with
  | ref n => exact bind_ref_spec O k h hn ht q
  | srf n => exact bind_srf_spec O k h hn ht q
  | _ => exact hn.elim
noncomputable def Ce.num : Ce → Nat
  | .ref n => n
  | .srf n => n + 1000000
  | _ => 0
theorem var_num {c : Ce} (h : x.isVar c) : (c.num : Int) = c.val + 1000000 * c.tag := by
  cases c with
  | ref n => exact (Int.add_zero _).symm
  | srf n => rfl
  | _ => exact h.elim
theorem var_lo {c : Ce} (h : x.isVar c) (hl : x.heap.length ≤ 1000000) (t : c.tag ≠ 1) : c.num < 1000000 := by
  cases c with
  | ref n => exact Nat.lt_of_lt_of_le h hl
  | srf n => exact absurd rfl t
  | _ => exact h.elim
theorem var_hi {c : Ce} (h : x.isVar c) (t : c.tag ≠ 0) : c.tag = 1 ∧ 1000000 ≤ c.num := by
  cases c with
  | srf n => exact ⟨rfl, Nat.le_add_left _ _⟩
  | ref n => exact absurd rfl t
  | _ => exact h.elim
theorem num_lt {c d : Ce} (h1 : x.isVar c) (h2 : x.isVar d) (t : c.tag = d.tag) (v : c.val < d.val) : c.num < d.num := by
  have := var_num h1
  have := var_num h2
  omega
theorem bind_pair_spec (O : Orc C) (k : Nat) {c d : Ce} {Q : Post} (h : StoreH A x H) (h1 : x.isVar c) (h2 : x.isVar d) (hl : x.heap.length ≤ 1000000) (ht : x.trail.length < 1000) (hne : c ≠ d)
    (q1 : c.num < d.num → ∀ H', Gr A.mut H H' → StoreH A (x.bind d c) H' → Q (.d .none) H') (q2 : d.num < c.num → ∀ H', Gr A.mut H H' → StoreH A (x.bind c d) H' → Q (.d .none) H') :
    C (k + 2) (.me .store "bind_pair") [.r A.s, .d c.enc, .d d.enc] H Q := by
  refine intro3 O def_bind_pair (by decide) (by decide) (by decide) fun f f1 f2 f3 => ?_
  tb_start
  refine cEqC' (fun z => absurd z hne) (fun _ => ?_)
  tb_start
  refine ifD (fun z => ?_) (fun z => ?_)
  · tb_start
    refine ifD (fun z1 => ?_) (fun z1 => ?_)
    · tb_start
      exact bind_spec O k h h2 ht fun H' g h' => .none (q1 (num_lt h1 h2 z z1) H' g h')
    · tb_start
      exact bind_spec O k h h1 ht fun H' g h' => .none (q2 (num_lt h2 h1 z.symm (Int.lt_iff_le_and_ne.mpr ⟨Int.not_lt.mp z1, fun e => hne (Ce.ext z e.symm)⟩)) H' g h')
  · tb_start
    refine ifD (fun z1 => ?_) (fun z1 => ?_)
    · tb_start
      exact bind_spec O k h h1 ht fun H' g h' => .none (q2 (Nat.lt_of_lt_of_le (var_lo h2 hl fun e => z (z1.trans e.symm)) (var_hi h1 (by rw [z1]; decide)).2) H' g h')
    · tb_start
      exact bind_spec O k h h2 ht fun H' g h' => .none (q1 (Nat.lt_of_lt_of_le (var_lo h1 hl z1) (var_hi h2 fun e => z1 (by
        rcases Decidable.em (c.tag = 0) with t | t
        · exact absurd (t.trans e.symm) z
        · exact (var_hi h1 t).1)).2) H' g h')
end
inductive Blk (heap : List Ce) : Ce → List Ce → Prop
  | u {a : Nat} {c : Ce} : heap[a]? = some (.fn 12) → heap[a + 1]? = some c → Blk heap (.str a) [c]
  | b {a : Nat} {c d : Ce} : heap[a]? = some (.fn 13) → heap[a + 1]? = some c → heap[a + 2]? = some d → Blk heap (.str a) [c, d]
  | l {a : Nat} {c d : Ce} : heap[a]? = some c → heap[a + 1]? = some d → Blk heap (.lis a) [c, d]
noncomputable def Ce.base : Ce → Nat
  | .lis a => a
  | c => c.val.toNat + 1
theorem Blk.get {heap : List Ce} {c : Ce} {cs : List Ce} (h : Blk heap c cs) {i : Nat} {d : Ce} (hi : cs[i]? = some d) : heap[c.base + i]? = some d := by
  have hlt := (List.getElem?_eq_some_iff.mp hi).1
  cases h with
  | u h1 h2 =>
    match i with
    | 0 => simp at hi; subst hi; exact h2
    | n + 1 => simp at hlt
  | b h1 h2 h3 =>
    match i with
    | 0 => simp at hi; subst hi; exact h2
    | 1 => simp at hi; subst hi; exact h3
    | n + 2 => simp at hlt; omega
  | l h1 h2 =>
    match i with
    | 0 => simp at hi; subst hi; exact h1
    | 1 => simp at hi; subst hi; exact h2
    | n + 2 => simp at hlt; omega
theorem Blk.arity {heap : List Ce} {c : Ce} {cs : List Ce} (h : Blk heap c cs) : (∃ m n, ∃ d : Unit, c = .str m ∧ heap[m]? = some (.fn n) ∧ (n = 12 ∧ (cs.length : Int) = 1 ∨ n = 13 ∧ (cs.length : Int) = 2)) ∨ ∃ m, c = .lis m ∧ (cs.length : Int) = 2 := by
  cases h with
  | u h1 _ => exact .inl ⟨_, _, (), rfl, h1, .inl ⟨rfl, rfl⟩⟩
  | b h1 _ _ => exact .inl ⟨_, _, (), rfl, h1, .inr ⟨rfl, rfl⟩⟩
  | l _ _ => exact .inr ⟨_, rfl, rfl⟩
theorem Blk.len {heap : List Ce} {c : Ce} {cs : List Ce} (h : Blk heap c cs) : cs.length ≤ 2 := by cases h <;> simp
section
variable {C : Nat → Oracle} {A : SA} {x : Sx} {H : AH}
theorem mark_spec (O : Orc C) (k : Nat) {Q : Post} (h : StoreH A x H) (q : Q (.d (.int x.trail.length)) H) : C (k + 1) (.me .store "mark") [.r A.s] H Q := by
  refine intro1 O def_mark fun f f1 => ?_
  tb_start
  exact q
theorem push_spec (O : Orc C) (k : Nat) {c : Ce} {Q : Post} (h : StoreH A x H) (hl : x.heap.length < 100000)
    (q : ∀ H', Gr A.mut H H' → StoreH A { x with heap := x.heap ++ [c] } H' → Q (.d (.int x.heap.length)) H') : C (k + 1) (.me .store "push") [.r A.s, .d c.enc] H Q := by
  refine intro2 O def_push (by decide) fun f f1 f2 => ?_
  tb_start
  refine ifDF (by omega) ?_
  tb_start
  refine appH h (Nat.lt_trans hl (by decide)) fun H' g h' => ?_
  tb_start
  exact q _ g h'
theorem new_var_spec (O : Orc C) (k : Nat) {Q : Post} (h : StoreH A x H) (hl : x.heap.length < 100000)
    (q : ∀ H', Gr A.mut H H' → StoreH A { x with heap := x.heap ++ [.ref x.heap.length] } H' → Q (.d (Ce.ref x.heap.length).enc) H') : C (k + 2) (.me .store "new_var") [.r A.s] H Q := by
  refine intro1 O def_new_var fun f f1 => ?_
  tb_start
  refine push_spec O k (c := .ref x.heap.length) h hl fun H' g h' => ?_
  tb_start
  exact q _ g h'
structure ResI (A : SA) (x : Sx) (H : AH) (i : Nat) (f : Frm) (H' : AH) : Prop where
  f1 : f "self" = some (.r A.s)
  f2 : f "first" = some (.d (.int x.heap.length))
  gr : Gr A.mut H H'
  st : StoreH A { x with heap := x.heap ++ (List.range i).map fun i => .ref (x.heap.length + i) } H'
theorem reserve_spec (O : Orc C) (k : Nat) {n : Nat} {Q : Post} (h : StoreH A x H) (hn : n < 1000) (hl : x.heap.length + n < 100000)
    (q : ∀ H', Gr A.mut H H' → StoreH A { x with heap := x.heap ++ (List.range n).map fun i => .ref (x.heap.length + i) } H' → Q (.d (.int x.heap.length)) H') : C (k + 1) (.me .store "reserve") [.r A.s, .d (.int n)] H Q := by
  refine intro2 O def_reserve (by decide) fun f f1 f2 => ?_
  tb_start
  refine ifDF (by omega) ?_
  tb_start
  refine rngU (n := n) (by omega) (ResI A x H) ⟨by k_caught0, by k_caught0, Gr.refl _ _, by rw [List.range_zero, List.map_nil, List.append_nil]; exact h⟩ (fun i f H' hi I => ?_) (fun f H' I => ?_)
  · have f1 := I.f1
    have f2 := I.f2
    have h' := I.st
    tb_start
    refine appH (c := .ref (x.heap.length + i)) h' ?_ fun H2 g2 h2 => ?_
    · show (x.heap ++ (List.range i).map fun i => Ce.ref (x.heap.length + i)).length < 1000000
      rw [List.length_append, List.length_map, List.length_range]; omega
    tb_start
    refine ⟨by k_caught0, by k_caught0, I.gr.tr g2, ?_⟩
    rw [List.range_succ, List.map_append, ← List.append_assoc]
    exact h2
  · have f2 := I.f2
    tb_start
    exact q _ I.gr I.st
theorem trim_spec (O : Orc C) (k : Nat) {n : Nat} {Q : Post} (h : StoreH A x H)
    (q : ∀ H', Gr A.mut H H' → StoreH A { x with heap := x.heap.take n } H' → Q (.d .none) H') : C (k + 1) (.me .store "trim") [.r A.s, .d (.int n)] H Q := by
  refine intro2 O def_trim (by decide) fun f f1 f2 => ?_
  refine sDel (ofAtt f1 (h.att (lf_heap A _ _))) f2 h.ha (sNil ?_)
  have e : (encC x.heap).take n = encC (x.heap.take n) := by unfold encC; rw [List.map_take]
  rw [e]
  exact q _ gr_ha (h.setHeap _)
theorem globalise_spec (O : Orc C) (k : Nat) {n : Nat} {c e : Ce} {Q : Post} (h : StoreH A x H) (hd : Der x.heap x.stack n c e) (hl : x.heap.length < 100000) (ht : x.trail.length < 1000)
    (q1 : e.tag ≠ 1 → Q (.d e.enc) H)
    (q2 : ∀ m H', e = .srf m → Gr A.mut H H' → StoreH A (Sx.bind { x with heap := x.heap ++ [.ref x.heap.length] } (.srf m) (.ref x.heap.length)) H' → Q (.d (Ce.ref x.heap.length).enc) H') (hs : ∀ m, e = .srf m → m < x.stack.length) :
    C (k + 3) (.me .store "globalise") [.r A.s, .d c.enc] H Q := by
  refine intro2 O def_globalise (by decide) fun f f1 f2 => ?_
  tb_start
  refine deref_spec O (k + 1) h hd ?_
  tb_start
  refine ifD (fun z => ?_) (fun z => ?_)
  · obtain ⟨m, rfl⟩ := tag_srf z
    tb_start
    refine new_var_spec O k h hl fun H1 g1 h1 => ?_
    tb_start
    refine bind_srf_spec O (k + 1) h1 (hs m rfl) ht fun H2 g2 h2 => ?_
    tb_start
    exact q2 m H2 rfl (g1.tr g2) h2
  · tb_start
    exact q1 z
theorem stack_put_spec (O : Orc C) (k : Nat) {c : Ce} {Q : Post} (h : StoreH A x H) (hl : x.stack.length < 1000)
    (q : ∀ H', Gr A.mut H H' → StoreH A { x with stack := x.stack ++ [c] } H' → Q (.d .none) H') : C (k + 1) (.me .store "stack_put") [.r A.s, .d (.int x.stack.length), .d c.enc] H Q := by
  refine intro3 O def_stack_put (by decide) (by decide) (by decide) fun f f1 f2 f3 => ?_
  tb_start
  refine ifDF (Int.lt_irrefl _) ?_
  tb_start
  refine sWhl (fun _ f' H' => H' = H ∧ f' = f.put "stack" (.r A.sa)) 0 ⟨rfl, rfl⟩ (fun n f' H' I => ?_)
  obtain ⟨rfl, rfl⟩ := I
  tb_start
  refine ifDF (Int.lt_irrefl _) ?_
  have hs := h.sa
  tb_start
  refine appS h (Nat.lt_trans hl (by decide)) fun H2 g2 h2 => ?_
  tb_start
  exact q _ g2 h2
theorem is_compound_spec (O : Orc C) (k : Nat) {c : Ce} {Q : Post} (q : ∀ z : Bool, (z = true ↔ (c.tag = 2 ∨ c.tag = 3)) → Q (.d (.bool z)) H) : C (k + 1) (.me .store "is_compound") [.r A.s, .d c.enc] H Q := by
  refine intro2 O def_is_compound (by decide) fun f f1 f2 => ?_
  tb_start
  refine ifD (fun h => q true ⟨fun _ => .inl h, fun _ => rfl⟩) fun h => ?_
  tb_start
  exact q _ (decide_eq_true_iff.trans ⟨.inr, fun o => o.resolve_left h⟩)
theorem is_variable_spec (O : Orc C) (k : Nat) {c : Ce} {Q : Post} (q : ∀ z : Bool, (z = true ↔ (c.tag = 0 ∨ c.tag = 1)) → Q (.d (.bool z)) H) : C (k + 1) (.fn "is_variable") [.d c.enc] H Q := by
  refine intro1 O def_is_variable fun f f2 => ?_
  tb_start
  refine ifD (fun h => q true ⟨fun _ => .inl h, fun _ => rfl⟩) fun h => ?_
  tb_start
  exact q _ (decide_eq_true_iff.trans ⟨.inr, fun o => o.resolve_left h⟩)
theorem arity_spec (O : Orc C) (k : Nat) {n : Nat} {fs : List Dt} {a : Dt} {w : Int} {Q : Post} (h : StoreH A x H) (hf : H A.fa = some (.lst fs)) (ha : fs[n]? = some (.tup [a, .int w])) (q : Q (.d (.int w)) H) : C (k + 1) (.me .sym "arity") [.r A.sy, .d (.int n)] H Q := by
  refine intro2 O def_sym_arity (by decide) fun f f1 f2 => ?_
  have hfun := h.att_fun
  tb_start
  refine subLst hf ha ?_
  tb_start
  exact subT1 q
theorem functor_of_spec (O : Orc C) (k : Nat) {c : Ce} {f : Nat} {Q : Post} (h : StoreH A x H) (hc : (∃ a, c = .str a ∧ x.heap[a]? = some (.fn f)) ∨ (∃ a, c = .lis a ∧ f = 0)) (q : Q (.d (.int f)) H) : C (k + 1) (.me .store "functor_of") [.r A.s, .d c.enc] H Q := by
  refine intro2 O def_functor_of (by decide) fun g f1 f2 => ?_
  tb_start
  rcases hc with ⟨a, rfl, ha⟩ | ⟨a, rfl, rfl⟩
  · refine ifDT rfl ?_
    tb_start
    refine subOf (h.hget ha) ?_
    tb_start
    exact subOf (sub_val H _) q
  · refine ifDF (by show ¬ ((3 : Int) = 2); decide) ?_
    tb_start
    refine ifDT rfl ?_
    tb_start
    exact q
theorem width_spec (O : Orc C) (k : Nat) {c : Ce} {cs : List Ce} {Q : Post} (h : StoreH A x H) (hc : Blk x.heap c cs) (q : Q (.d (.int cs.length)) H) : C (k + 2) (.me .store "width") [.r A.s, .d c.enc] H Q := by
  refine intro2 O def_width (by decide) fun g f1 f2 => ?_
  obtain ⟨fs, a, b, hf, h12, h13⟩ := h.fa
  rcases hc.arity with ⟨m, n, d, rfl, ha, hn⟩ | ⟨m, rfl, h2⟩
  · tb_start
    refine ifDF (by show ¬ ((2 : Int) = 3); decide) ?_
    tb_start
    refine ifDT rfl ?_
    tb_start
    obtain ⟨tx, an, nf, h8⟩ := h.dy
    refine eMet (ofAtt (by k_caught0) (h.att (lf_sym A _ _))) h.sy h8 (by kernel_rfl) ?_
    tb_start
    refine subOf (h.hget ha) ?_
    tb_start
    refine subOf (sub_val H _) ?_
    tb_start
    rcases hn with ⟨rfl, e⟩ | ⟨rfl, e⟩
    · rw [e] at q; exact arity_spec O k h hf h12 q
    · rw [e] at q; exact arity_spec O k h hf h13 q
  · tb_start
    refine ifDT rfl ?_
    tb_start
    rw [h2] at q; exact q
theorem base_spec (O : Orc C) (k : Nat) {c : Ce} {Q : Post} (hc : c.tag = 2 ∨ c.tag = 3) (q : Q (.d (.int c.base)) H) : C (k + 1) (.me .store "base") [.r A.s, .d c.enc] H Q := by
  refine intro2 O def_base (by decide) fun f f1 f2 => ?_
  rcases tag_cmp hc with ⟨a, rfl⟩ | ⟨a, rfl⟩
  · tb_start
    refine ifDF (by show ¬ ((2 : Int) = 3); decide) ?_
    tb_start
    exact q
  · tb_start
    refine ifDT rfl ?_
    tb_start
    exact q
end
theorem rev_take {α : Type} (l : List α) (i : Nat) (hi : i < l.length) : l.reverse.take (i + 1) = l.reverse.take i ++ [l[l.length - 1 - i]'(by omega)] := by
  rw [List.take_add_one, List.getElem?_reverse hi, List.getElem?_eq_getElem (by omega)]
  rfl
noncomputable def encP (p : Ce × Ce) : Dt := .tup [p.1.enc, p.2.enc]
noncomputable def encPs (l : List (Ce × Ce)) : List Dt := l.map encP
@[simp] theorem encPs_len (l : List (Ce × Ce)) : (encPs l).length = l.length := by simp [encPs]
theorem encPs_snoc (l : List (Ce × Ce)) (p : Ce × Ce) : encPs l ++ [.tup [p.1.enc, p.2.enc]] = encPs (l ++ [p]) := by simp [encPs, encP]
noncomputable def fresh (n : Nat) (k : Nat) : List Ce := (List.range k).map fun i => .ref (n + i)
section
variable {C : Nat → Oracle} {A : SA} {x : Sx} {H : AH}
theorem Blk.cmp {heap : List Ce} {c : Ce} {cs : List Ce} (h : Blk heap c cs) : c.tag = 2 ∨ c.tag = 3 := by
  cases h with
  | l _ _ => exact .inr rfl
  | _ => exact .inl rfl
theorem take_len {α : Type} {i n : Nat} (ws cs : List α) (hl : ws.length < 100000) (hc : cs.length ≤ n) (hn : n ≤ 2 := by decide) : (ws ++ cs.reverse.take i).length < 1000000 := by
  rw [List.length_append, List.length_take, List.length_reverse]; omega
structure PaI (A : SA) (x : Sx) (H : AH) (w : Addr) (cs ws : List Ce) (n : Nat) (i : Nat) (f : Frm) (H' : AH) : Prop where
  f1 : f "store" = some (.r A.s)
  f2 : f "work" = some (.r w)
  f3 : f "place" = some (.d (.int n))
  gr : Gr [w] H H'
  st : StoreH A x H'
  hw : H' w = some (.lst (encC (ws ++ cs.reverse.take i)))
theorem push_arguments_spec (O : Orc C) (k : Nat) {c : Ce} {cs ws : List Ce} {w : Addr} {Q : Post} (h : StoreH A x H) (hc : Blk x.heap c cs) (hw : H w = some (.lst (encC ws))) (hn : w ∉ A.all) (hl : ws.length < 100000)
    (q : ∀ H', Gr [w] H H' → StoreH A x H' → H' w = some (.lst (encC (ws ++ cs.reverse))) → Q (.d .none) H') : C (k + 3) (.fn "push_arguments") [.r A.s, .d c.enc, .r w] H Q := by
  refine intro3 O def_push_arguments (by decide) (by decide) (by decide) fun f f1 f2 f3 => ?_
  tb_start
  refine base_spec O (k + 1) hc.cmp ?_
  tb_start
  refine width_spec O k h hc ?_
  tb_start
  refine rngD (Nat.lt_of_le_of_lt hc.len (by decide)) (PaI A x H w cs ws c.base) ⟨by k_caught0, by k_caught0, by k_caught0, Gr.refl _ _, h, by rw [List.take_zero, List.append_nil]; exact hw⟩ (fun i f H' hi I => ?_) (fun f H' I => ?_)
  · have f1 := I.f1
    have f2 := I.f2
    have f3 := I.f3
    have h' := I.st
    have hw' := I.hw
    tb_start
    refine subOf (h'.hget (hc.get (i := cs.length - 1 - i) (List.getElem?_eq_getElem (by omega)))) ?_
    refine appOf hw' (by rw [encC_len]; exact take_len _ _ hl hc.len) ?_
    tb_start
    refine ⟨by k_caught0, by k_caught0, by k_caught0, I.gr.tr Gr.set, h'.other hn, ?_⟩
    rw [set_at, encC_snoc, rev_take _ _ hi, List.append_assoc]
  · have hw' := I.hw
    rw [List.take_of_length_le (Nat.le_of_eq List.length_reverse)] at hw'
    tb_start
    exact q _ I.gr I.st hw'
structure PpI (A : SA) (x : Sx) (H : AH) (w : Addr) (cs ws : List (Ce × Ce)) (n m : Nat) (i : Nat) (f : Frm) (H' : AH) : Prop where
  f1 : f "store" = some (.r A.s)
  f2 : f "work" = some (.r w)
  f3 : f "left_place" = some (.d (.int n))
  f4 : f "right_place" = some (.d (.int m))
  gr : Gr [w] H H'
  st : StoreH A x H'
  hw : H' w = some (.lst (encPs (ws ++ cs.reverse.take i)))
theorem push_pairs_spec (O : Orc C) (k : Nat) {c d : Ce} {cs ds : List Ce} {ws : List (Ce × Ce)} {w : Addr} {Q : Post} (h : StoreH A x H) (hc : Blk x.heap c cs) (hd : Blk x.heap d ds) (hlen : cs.length = ds.length) (hw : H w = some (.lst (encPs ws))) (hn : w ∉ A.all) (hl : ws.length < 100000)
    (q : ∀ H', Gr [w] H H' → StoreH A x H' → H' w = some (.lst (encPs (ws ++ (cs.zip ds).reverse))) → Q (.d .none) H') : C (k + 3) (.fn "push_pairs") [.r A.s, .d c.enc, .d d.enc, .r w] H Q := by
  refine intro4 O def_push_pairs (by decide) (by decide) (by decide) (by decide) (by decide) (by decide) fun f f1 f2 f3 f4 => ?_
  tb_start
  refine base_spec O (k + 1) hc.cmp ?_
  tb_start
  refine base_spec O (k + 1) hd.cmp ?_
  tb_start
  refine width_spec O k h hc ?_
  have hzl : (cs.zip ds).length = cs.length := by rw [List.length_zip, ← hlen, Nat.min_self]
  tb_start
  refine rngD (Nat.lt_of_le_of_lt hc.len (by decide)) (PpI A x H w (cs.zip ds) ws c.base d.base) ⟨by k_caught0, by k_caught0, by k_caught0, by k_caught0, Gr.refl _ _, h, by rw [List.take_zero, List.append_nil]; exact hw⟩ (fun i f H' hi I => ?_) (fun f H' I => ?_)
  · have f1 := I.f1
    have f2 := I.f2
    have f3 := I.f3
    have f4 := I.f4
    have h' := I.st
    have hw' := I.hw
    have hr := rev_take (cs.zip ds) i (by rw [hzl]; exact hi)
    simp only [hzl, List.getElem_zip] at hr
    tb_start
    refine subOf (h'.hget (hc.get (i := cs.length - 1 - i) (List.getElem?_eq_getElem (by omega)))) ?_
    tb_start
    refine subOf (h'.hget (hd.get (i := cs.length - 1 - i) (List.getElem?_eq_getElem (by omega)))) ?_
    tb_start
    refine appOf hw' (by rw [encPs_len]; exact take_len _ _ hl (by rw [hzl]; exact hc.len)) ?_
    tb_start
    refine ⟨by k_caught0, by k_caught0, by k_caught0, by k_caught0, I.gr.tr Gr.set, h'.other hn, ?_⟩
    rw [set_at, hr, ← List.append_assoc, ← encPs_snoc]
  · have hw' := I.hw
    rw [← hzl, List.take_of_length_le (Nat.le_of_eq List.length_reverse)] at hw'
    tb_start
    exact q _ I.gr I.st hw'
noncomputable def fnOf : Option Ce → Option Nat
  | some (.fn f) => some f
  | _ => none
noncomputable def Ce.fnum (heap : List Ce) : Ce → Option Nat
  | .lis _ => some 0
  | .str a => fnOf heap[a]?
  | _ => none
theorem fnOf_some {o : Option Ce} {f : Nat} (h : fnOf o = some f) : o = some (.fn f) := by
  cases o with
  | none => cases h
  | some c => cases c <;> first | (cases h; rfl) | cases h
theorem Ce.fnum_cases {hp : List Ce} {c : Ce} {f : Nat} (h : c.fnum hp = some f) : (∃ a, c = .lis a ∧ f = 0) ∨ ∃ a, c = .str a ∧ hp[a]? = some (.fn f) := by
  cases c with
  | lis a => cases h; exact .inl ⟨a, rfl, rfl⟩
  | str a => exact .inr ⟨a, rfl, fnOf_some h⟩
  | _ => cases h
theorem tag_lis {c : Ce} (h : c.tag = 3) : ∃ m, c = .lis m := (tag_cmp (.inr h)).elim (fun ⟨a, e⟩ => by rw [e] at h; exact absurd h (by show ¬ ((2 : Int) = 3); decide)) id
theorem tag_str {c : Ce} (h : c.tag = 2) : ∃ m, c = .str m := (tag_cmp (.inl h)).elim id (fun ⟨a, e⟩ => by rw [e] at h; exact absurd h (by show ¬ ((3 : Int) = 2); decide))
theorem Ce.fnum_tag {hp : List Ce} {c d : Ce} {f : Nat} (hc : c.fnum hp = some f) (hc0 : ∀ a, c = .str a → f ≠ 0) (hd : ∀ a, d = .str a → ∃ g, hp[a]? = some (.fn g) ∧ g ≠ 0) (h : d.fnum hp = some f) : c.tag = d.tag := by
  rcases Ce.fnum_cases hc with ⟨a, rfl, rfl⟩ | ⟨a, rfl, ha⟩ <;> rcases Ce.fnum_cases h with ⟨b, rfl, e⟩ | ⟨b, rfl, hb⟩
  · rfl
  · obtain ⟨g, hg, h0⟩ := hd b rfl
    rw [hg] at hb; cases hb; exact absurd rfl h0
  · exact absurd e (hc0 a rfl)
  · rfl
theorem same_shape_spec (O : Orc C) (k : Nat) {c d : Ce} {f : Nat} {Q : Post} (h : StoreH A x H) (hc : c.fnum x.heap = some f) (hd : ∀ a, d = .str a → ∃ g, x.heap[a]? = some (.fn g) ∧ g ≠ 0) (hc0 : ∀ a, c = .str a → f ≠ 0)
    (q : ∀ z : Bool, (z = true ↔ d.fnum x.heap = some f) → Q (.d (.bool z)) H) : C (k + 1) (.fn "same_shape") [.r A.s, .d c.enc, .d d.enc] H Q := by
  refine intro3 O def_same_shape (by decide) (by decide) (by decide) fun g f1 f2 f3 => ?_
  tb_start
  refine ifND (fun z => ?_) (fun z => ?_)
  · tb_start
    exact q false ⟨fun z => (nomatch z), fun hf => absurd (Ce.fnum_tag hc hc0 hd hf) z⟩
  · tb_start
    rcases Ce.fnum_cases hc with ⟨a, rfl, rfl⟩ | ⟨a, rfl, ha⟩
    · refine ifDT rfl ?_
      tb_start
      refine q true ⟨fun _ => ?_, fun _ => rfl⟩
      obtain ⟨b, rfl⟩ := tag_lis z.symm
      rfl
    · refine ifDF (by show ¬ ((2 : Int) = 3); decide) ?_
      obtain ⟨b, rfl⟩ := tag_str z.symm
      obtain ⟨g, hg, hg0⟩ := hd b rfl
      tb_start
      refine subOf (h.hget ha) ?_
      tb_start
      refine subOf (h.hget hg) ?_
      tb_start
      refine cEqC fun z hzi => q z (hzi.trans ?_)
      show Ce.fn f = Ce.fn g ↔ fnOf x.heap[b]? = some f
      rw [hg]
      exact ⟨fun e => by cases e; rfl, fun e => by cases e; rfl⟩
theorem new_block_lis (O : Orc C) (k : Nat) {Q : Post} (h : StoreH A x H) (hl : x.heap.length < 10000)
    (q : ∀ H', Gr A.mut H H' → StoreH A { x with heap := x.heap ++ fresh x.heap.length 2 } H' → Q (.d (Ce.lis x.heap.length).enc) H') : C (k + 2) (.me .store "new_block") [.r A.s, .d (.int 0)] H Q := by
  refine intro2 O def_new_block (by decide) fun g f1 f2 => ?_
  tb_start
  refine ifDT rfl ?_
  tb_start
  refine reserve_spec O k h (n := 2) (by decide) (by omega) fun H' g h' => ?_
  tb_start
  exact q _ g h'
theorem new_block_str (O : Orc C) (k : Nat) {f w : Nat} {Q : Post} (h : StoreH A x H) (hl : x.heap.length < 10000) (hf : (f = 12 ∧ w = 1) ∨ (f = 13 ∧ w = 2))
    (q : ∀ H', Gr A.mut H H' → StoreH A { x with heap := x.heap ++ .fn f :: fresh (x.heap.length + 1) w } H' → Q (.d (Ce.str x.heap.length).enc) H') : C (k + 2) (.me .store "new_block") [.r A.s, .d (.int f)] H Q := by
  refine intro2 O def_new_block (by decide) fun g f1 f2 => ?_
  obtain ⟨fs, a, b, hfa, h12, h13⟩ := h.fa
  have hw : w ≤ 2 := by omega
  obtain ⟨a', ha'⟩ : ∃ a', fs[f]? = some (.tup [a', .int w]) := by
    rcases hf with ⟨rfl, rfl⟩ | ⟨rfl, rfl⟩
    · exact ⟨a, h12⟩
    · exact ⟨b, h13⟩
  tb_start
  refine ifDF (by omega) ?_
  tb_start
  obtain ⟨tx, an, nf, h8⟩ := h.dy
  refine eMet (ofAtt (by k_caught0) (h.att (lf_sym A _ _))) h.sy h8 (by kernel_rfl) ?_
  tb_start
  refine arity_spec O k h hfa ha' ?_
  have e1 : (1 : Int) + (w : Int) = ((1 + w : Nat) : Int) := rfl
  tb_start
  rw [e1]
  refine reserve_spec O k h (n := 1 + w) (by omega) (by omega) fun H1 g1 h1 => ?_
  tb_start
  have e : (x.heap ++ (List.range (1 + w)).map fun i => Ce.ref (x.heap.length + i)).set x.heap.length (.fn f) = x.heap ++ .fn f :: fresh (x.heap.length + 1) w := by
    rw [List.set_append_right _ _ (Nat.le_refl _), Nat.sub_self]
    congr 1
    rcases hf with ⟨rfl, rfl⟩ | ⟨rfl, rfl⟩
    · rfl
    · rfl
  refine setH (v := .fn f) h1 (by show x.heap.length < (x.heap ++ _).length; rw [List.length_append, List.length_map, List.length_range]; omega) fun H2 g2 h2 => ?_
  tb_start
  simp only [e] at h2
  exact q _ (g1.tr g2) h2
end
structure Und (mk : Nat → Int) (v : Nat → Ce) (old : List Ce) (dn : List Int) (new : List Ce) : Prop where
  len : new.length = old.length
  at' : ∀ n, n < old.length → (mk n ∈ dn → new[n]? = some (v n)) ∧ (mk n ∉ dn → new[n]? = old[n]?)
section
variable {mk : Nat → Int} {v : Nat → Ce} {old new : List Ce} {dn : List Int}
theorem Und.nil : Und mk v old [] old := ⟨rfl, fun _ _ => ⟨fun z => (nomatch z), fun _ => rfl⟩⟩
theorem Und.hit (U : Und mk v old dn new) {m : Nat} (hm : m < old.length) (inj : ∀ n, mk n = mk m → n = m) : Und mk v old (mk m :: dn) (new.set m (v m)) := by
  refine ⟨by rw [List.length_set]; exact U.len, fun n hn => ⟨fun hd => ?_, fun hd => ?_⟩⟩
  · rw [List.getElem?_set]
    by_cases e : m = n
    · subst e; rw [if_pos rfl, if_pos (by rw [U.len]; exact hm)]
    · rw [if_neg e]
      exact (U.at' n hn).1 ((List.mem_cons.mp hd).resolve_left fun z => e (inj n z).symm)
  · rw [List.mem_cons, not_or] at hd
    rw [List.getElem?_set, if_neg (fun e => hd.1 (by rw [e]))]
    exact (U.at' n hn).2 hd.2
theorem Und.miss (U : Und mk v old dn new) {u : Int} (h : ∀ n, mk n ≠ u) : Und mk v old (u :: dn) new :=
  ⟨U.len, fun n hn => ⟨fun hd => (U.at' n hn).1 ((List.mem_cons.mp hd).resolve_left (h n)), fun hd => (U.at' n hn).2 fun e => hd (List.mem_cons_of_mem _ e)⟩⟩
end
noncomputable abbrev mkR : Nat → Int := fun n => n
noncomputable abbrev mkS : Nat → Int := fun n => -1 - (n : Int)
inductive UndI (A : SA) (x : Sx) (H : AH) (n : Nat) (f : Frm) (H' : AH) : Prop
  | mk {hp st : List Ce} {t dn : List Int} (f1 : f "self" = some (.r A.s)) (f2 : f "mark" = some (.d (.int 0))) (g : Gr A.mut H H') (e : n = t.length) (et : x.trail = t ++ dn)
    (h : StoreH A { x with heap := hp, stack := st, trail := t } H') (u1 : Und mkR .ref x.heap dn hp) (u2 : Und mkS .srf x.stack dn st) : UndI A x H n f H'
section
variable {C : Nat → Oracle} {A : SA} {x : Sx} {H : AH}
theorem neg_ne (n m : Nat) : -1 - (n : Int) ≠ (m : Int) := by omega
set_option tactic.hygienic true in
theorem undo_spec (O : Orc C) (k : Nat) {Q : Post} (h : StoreH A x H) (hh : ∀ n : Nat, (n : Int) ∈ x.trail → n < x.heap.length) (hs : ∀ n : Nat, -1 - (n : Int) ∈ x.trail → n < x.stack.length)
    (q : ∀ H' hp st, Gr A.mut H H' → StoreH A { x with heap := hp, stack := st, trail := [] } H' → hp.length = x.heap.length → st.length = x.stack.length →
      (∀ n : Nat, n < x.heap.length → (((n : Int) ∈ x.trail → hp[n]? = some (.ref n)) ∧ ((n : Int) ∉ x.trail → hp[n]? = x.heap[n]?))) →
      (∀ n : Nat, n < x.stack.length → ((-1 - (n : Int) ∈ x.trail → st[n]? = some (.srf n)) ∧ (-1 - (n : Int) ∉ x.trail → st[n]? = x.stack[n]?))) → Q (.d .none) H') :
    C (k + 1) (.me .store "undo_to") [.r A.s, .d (.int 0)] H Q := by
  refine intro2 O def_undo_to (by decide) fun f f1 f2 => ?_
  refine sWhl (UndI A x H) x.trail.length ⟨f1, f2, Gr.refl _ _, rfl, (List.append_nil _).symm, h, .nil, .nil⟩ fun n f H' I => ?_
  obtain ⟨f1, f2, g, rfl, htr, h', u1, u2⟩ := I
  rename_i hp st t dn
  tb_start
  rcases List.eq_nil_or_concat t with rfl | ⟨us, u, rfl⟩
  · refine ifDF (Int.lt_irrefl _) ?_
    rw [List.nil_append] at htr
    tb_start
    rw [htr] at q
    exact q _ hp st g h' u1.len u2.len u1.at' u2.at'
  rw [List.concat_eq_append] at htr h' ⊢
  have hlen : us.length < (us ++ [u]).length := by rw [List.length_append]; exact Nat.lt_succ_self _
  refine ifDT (by show (0 : Int) < ((us ++ [u]).length : Int); rw [List.length_append]; exact Int.ofNat_lt.mpr (Nat.succ_pos _)) ?_
  tb_start
  refine ePopT (us := us) (u := u) h' (by k_caught0) rfl fun H2 g2 h2 => ?_
  have hmem : u ∈ x.trail := by rw [htr]; exact List.mem_append_left _ (List.mem_append_right _ List.mem_cons_self)
  rw [List.append_assoc] at htr
  tb_start
  refine ifD (fun z => ?_) (fun z => ?_)
  · obtain ⟨m, rfl⟩ := Int.eq_ofNat_of_zero_le z
    have hm := hh m hmem
    tb_start
    refine setH (v := .ref m) h2 (by rw [u1.len]; exact hm) fun H3 g3 h3 => ?_
    tb_start
    exact ⟨us.length, hlen, by k_caught0, by k_caught0, (g.tr g2).tr g3, rfl, htr, h3, u1.hit (mk := mkR) hm (fun n e => Int.ofNat.inj e), u2.miss fun n => neg_ne n m⟩
  · obtain ⟨m, e⟩ := Int.eq_ofNat_of_zero_le (show 0 ≤ -1 - u by omega)
    have e2 : u = -1 - (m : Int) := by omega
    subst e2
    have hm := hs m hmem
    tb_start
    rw [show (-1 : Int) - (-1 - (m : Int)) = (m : Int) by omega]
    refine setS (v := .srf m) h2 (by rw [u2.len]; exact hm) fun H3 g3 h3 => ?_
    tb_start
    exact ⟨us.length, hlen, by k_caught0, by k_caught0, (g.tr g2).tr g3, rfl, htr, h3, u1.miss fun n => (neg_ne m n).symm, u2.hit (mk := mkS) hm fun n e => Int.ofNat.inj (Int.sub_right_inj (k := -1) |>.mp e)⟩
theorem pairs_init_spec (O : Orc C) (k : Nat) {p dx : Addr} {Q : Post} (h : StoreH A x H) (hp : H p = some (.inst .pairs dx)) (hd : H dx = some (.ns [])) (hdA : dx ∉ A.all)
    (q : ∀ H' m, Gr [dx] H H' → StoreH A x H' → H' dx = some (.ns [("span", .d (.int (x.heap.length + 1))), ("met", .r m)]) → H' m = some (.set []) → m ∉ A.all → m ≠ p → m ≠ dx → H m = none → Q (.d .none) H') : C (k + 1) (.me .pairs "__init__") [.r p, .r A.s] H Q := by
  refine intro2 O def_pairs_init (by decide) fun f f1 f2 => ?_
  have hpd : p ≠ dx := fun e => by subst e; rw [hp] at hd; cases hd
  tb_start
  refine satOf hp hd (by decide) rfl ?_
  have h1 := h.other (o := .ns [("span", .d (.int (x.heap.length + 1)))]) hdA
  have hp1 : (H.set dx (.ns [("span", .d (.int (x.heap.length + 1)))])) p = some (.inst .pairs dx) := by rw [set_ne _ _ hpd]; exact hp
  have hd1 := set_at H dx (.ns [("span", .d (.int (x.heap.length + 1)))])
  have g1 : Gr [dx] H (H.set dx (.ns [("span", .d (.int (x.heap.length + 1)))])) := Gr.set
  have hn1 : ∀ m, (H.set dx (.ns [("span", .d (.int (x.heap.length + 1)))])) m = none → H m = none := fun m hm => by
    by_cases e : m = dx
    · subst e; rw [set_at] at hm; cases hm
    · rw [set_ne _ _ e] at hm; exact hm
  show Wxs _ _ _ (H.set dx (.ns [("span", .d (.int (x.heap.length + 1)))])) _
  generalize H.set dx (.ns [("span", .d (.int (x.heap.length + 1)))]) = H1 at h1 hp1 hd1 g1 hn1 ⊢
  tb_start
  intro m hm
  have hmd : m ≠ dx := fun e => by subst e; rw [hd1] at hm; cases hm
  have hmp : m ≠ p := fun e => by subst e; rw [hp1] at hm; cases hm
  have h2 := h1.new (o := .set []) hm
  have hp2 := keep_new (o' := .set []) hp1 hm
  have hd2 := keep_new (o' := .set []) hd1 hm
  tb_start
  refine satOf (gs := [("span", .d (.int (x.heap.length + 1))), ("met", .r m)]) hp2 hd2 (by show 1 < 100; decide) (by kernel_rfl) ?_
  tb_start
  refine q _ m ((g1.trans (Gr.new hm) (by simp)).tr Gr.set) (h2.other hdA) (set_at _ _ _) ?_ (h1.ne hm) hmp hmd (hn1 m hm)
  rw [set_ne _ _ hmd, set_at]
theorem pairs_add_spec (O : Orc C) (k : Nat) {p dx m : Addr} {is : List Int} {sp : Nat} {c d : Ce} {a b : Nat} {Q : Post} (hp : H p = some (.inst .pairs dx)) (hd : H dx = some (.ns [("span", .d (.int sp)), ("met", .r m)])) (hm : H m = some (.set is)) (hl : is.length < 4000)
    (hc : c.val = (a : Int)) (hd' : d.val = (b : Int)) (hs : sp < 1000000) (q1 : (a : Int) * sp + b ∈ is → Q (.d (.bool false)) H) (q2 : (a : Int) * sp + b ∉ is → Q (.d (.bool true)) (H.set m (.set (is ++ [(a : Int) * sp + b])))) : C (k + 1) (.me .pairs "add") [.r p, .d c.enc, .d d.enc] H Q := by
  refine intro3 O def_pairs_add (by decide) (by decide) (by decide) fun f f1 f2 f3 => ?_
  have a1 : attV H "span" (.r p) (.d (.int sp)) := attI hp hd (by kernel_rfl)
  have a2 : attV H "met" (.r p) (.r m) := attI hp hd (by kernel_rfl)
  tb_start
  refine bMul (by rw [Int.natAbs_natCast]; exact Nat.lt_trans hs (by decide)) ?_
  tb_start
  rw [hc, hd']
  refine inSet hm (ifB _ (fun z => ?_) (fun z => ?_))
  · tb_start
    exact q1 (List.contains_iff_mem.mp z)
  · tb_start
    refine eAdd (ofAtt (by k_caught0) a2) hm ?_
    tb_start
    refine addOf hm hl ?_
    rw [z]
    tb_start
    exact q2 fun e => by rw [List.contains_iff_mem.mpr e] at z; cases z
end
mutual
noncomputable def IE.cst : IE → Dt
  | .con d => d
  | .tup es => .tup (IE.csts es)
  | _ => .none
noncomputable def IE.csts : List IE → List Dt
  | [] => []
  | e :: es => IE.cst e :: IE.csts es
end
noncomputable def retOf : List IS → List Dt
  | [.ret (.tup es)] => IE.csts es
  | _ => []
noncomputable def strOf : Dt → Str
  | .str t => t
  | _ => Str.ofString ""
noncomputable def rowOf : Dt → Str × Int
  | .tup [.str t, .int w] => (t, w)
  | _ => (Str.ofString "", 0)
noncomputable def atomD : List Str := (retOf ir_fn_fixed_atoms).map strOf
noncomputable def rowD : List (Str × Int) := (retOf ir_fn_fixed_functors).map rowOf
noncomputable def rowE (p : Str × Int) : Dt := .tup [.str p.1, .int p.2]
structure Sy where
  n : Nat
  an : List (Str × Int)
  fs : List (Int × Int)
  fn : List (List Int × Int)
noncomputable def Sy.atom (s : Sy) (t : Str) : Int × Sy := if 0 ≤ (lookK t s.an).getD (-1) then ((lookK t s.an).getD (-1), s) else (s.n, { s with n := s.n + 1, an := putK t s.n s.an })
noncomputable def Sy.functor (s : Sy) (a w : Int) : Int × Sy := if 0 ≤ (lookK [a, w] s.fn).getD (-1) then ((lookK [a, w] s.fn).getD (-1), s) else (s.fs.length, { s with fs := s.fs ++ [(a, w)], fn := putK [a, w] s.fs.length s.fn })
noncomputable def Sy.row (s : Sy) (p : Str × Int) : Sy := ((s.atom p.1).2.functor (s.atom p.1).1 p.2).2
noncomputable def sy0 : Sy := ⟨0, [], [], []⟩
noncomputable def sy1 : Sy := atomD.foldl (fun s t => (s.atom t).2) sy0
noncomputable def sy2 : Sy := rowD.foldl Sy.row sy1
noncomputable def encF (l : List (Int × Int)) : List Dt := l.map fun p => .tup [.int p.1, .int p.2]
theorem sy2_fs : ∃ a b, (encF sy2.fs)[12]? = some (.tup [a, .int 1]) ∧ (encF sy2.fs)[13]? = some (.tup [b, .int 2]) := by
  have h : (sy2.fs.map (·.2))[12]? = some 1 ∧ (sy2.fs.map (·.2))[13]? = some 2 := by decide +kernel
  rw [List.getElem?_map, List.getElem?_map] at h
  obtain ⟨p, hp, e⟩ := Option.map_eq_some_iff.mp h.1
  obtain ⟨p', hp', e'⟩ := Option.map_eq_some_iff.mp h.2
  refine ⟨.int p.1, .int p'.1, ?_, ?_⟩
  · unfold encF; rw [List.getElem?_map, hp, Option.map_some, e]
  · unfold encF; rw [List.getElem?_map, hp', Option.map_some, e']
structure YA where
  sy : Addr
  dy : Addr
  tx : Addr
  an : Addr
  fa : Addr
  nf : Addr
noncomputable def YA.all (Y : YA) : List Addr := [Y.sy, Y.dy, Y.tx, Y.an, Y.fa, Y.nf]
noncomputable def YA.objs (Y : YA) (s : Sy) (ds : List Dt) : List (Addr × AO) := [(Y.sy, .inst .sym Y.dy), (Y.dy, .ns [("texts", .r Y.tx), ("atom_numbers", .r Y.an), ("functors", .r Y.fa), ("functor_numbers", .r Y.nf)]), (Y.tx, .lst ds), (Y.an, .ds s.an), (Y.fa, .lst (encF s.fs)), (Y.nf, .dt s.fn)]
structure Sy.Bd (s : Sy) : Prop where
  b1 : s.n ≤ 1000
  b2 : s.an.length ≤ s.n
  b3 : s.fs.length ≤ 1000
  b4 : s.fn.length ≤ s.fs.length
inductive SymH (Y : YA) (s : Sy) (H : AH) : Prop
  | mk {ds : List Dt} (hv : Hv (Y.objs s ds) H) (hl : ds.length = s.n) (bd : s.Bd) : SymH Y s H
theorem putK_len {K V : Type} [DecidableEq K] (k : K) (v : V) : ∀ l : List (K × V), (putK k v l).length ≤ l.length + 1
  | [] => Nat.le_refl _
  | e :: r => by
    unfold putK
    split
    · exact Nat.le_succ _
    · exact Nat.succ_le_succ (putK_len k v r)
section
variable {C : Nat → Oracle} {Y : YA} {s : Sy} {H : AH}
theorem SymH.sy (h : SymH Y s H) : H Y.sy = some (.inst .sym Y.dy) := by cases h with | mk hv _ _ => exact hv.get 0 rfl
theorem SymH.dy (h : SymH Y s H) : H Y.dy = some (.ns [("texts", .r Y.tx), ("atom_numbers", .r Y.an), ("functors", .r Y.fa), ("functor_numbers", .r Y.nf)]) := by cases h with | mk hv _ _ => exact hv.get 1 rfl
theorem SymH.att (h : SymH Y s H) {z : Str} {v : AV} (hl : lookF z [("texts", .r Y.tx), ("atom_numbers", .r Y.an), ("functors", .r Y.fa), ("functor_numbers", .r Y.nf)] = some v) : attV H z (.r Y.sy) v := attI h.sy h.dy hl
theorem SymH.keep {H' : AH} (h : SymH Y s H) (g : ∀ b ∈ Y.all, ∀ o, H b = some o → H' b = some o) : SymH Y s H' := by cases h with | mk hv hl bd => exact ⟨hv.keep g, hl, bd⟩
theorem SymH.has (h : SymH Y s H) : ∀ b ∈ Y.all, ∃ o, H b = some o := by cases h with | mk hv _ _ => exact fun b hb => hv.has hb
set_option tactic.hygienic true in
theorem atom_spec (O : Orc C) (k : Nat) {t : Str} {Q : Post} (h : SymH Y s H) (hn : s.n < 1000) (q : ∀ H', Gr Y.all H H' → SymH Y (s.atom t).2 H' → Q (.d (.int (s.atom t).1)) H') : C (k + 1) (.me .sym "atom") [.r Y.sy, .d (.str t)] H Q := by
  refine intro2 O def_sym_atom (by decide) fun f f1 f2 => ?_
  have a1 : attV H "texts" (.r Y.sy) (.r Y.tx) := h.att (by kernel_rfl)
  have a2 : attV H "atom_numbers" (.r Y.sy) (.r Y.an) := h.att (by kernel_rfl)
  have h0 := h
  obtain ⟨hv, hl, bd⟩ := h
  rename_i ds
  have htx := hv.get 2 rfl
  tb_start
  refine eGetS (ofAtt f1 a2) (hv.get 3 rfl) ?_
  tb_start
  refine getS (hv.get 3 rfl) ?_
  tb_start
  unfold Sy.atom at q
  refine ifD (fun z => ?_) (fun z => ?_)
  · rw [if_pos z] at q
    tb_start
    exact q H (Gr.refl _ _) h0
  · rw [if_neg z] at q
    tb_start
    refine appOf htx (by rw [hl]; exact Nat.lt_trans hn (by decide)) ?_
    have hv2 := hv.upd 2 rfl (.lst (ds ++ [.str t]))
    have a3 := attI (hv2.get 0 rfl) (hv2.get 1 rfl) (z := "atom_numbers") (v := .r Y.an) (by kernel_rfl)
    tb_start
    refine ssDs (hv2.get 3 rfl) (Nat.lt_of_le_of_lt bd.b2 (Nat.lt_trans hn (by decide))) ?_
    tb_start
    rw [hl]
    have hv3 := hv2.upd 3 rfl (.ds (putK t s.n s.an))
    exact q _ ((gr_mem (.tail _ (.tail _ (.head _)))).tr (gr_mem (.tail _ (.tail _ (.tail _ (.head _)))))) ⟨hv3, by rw [List.length_append, hl]; rfl, hn, Nat.le_trans (putK_len _ _ _) (Nat.succ_le_succ bd.b2), bd.b3, bd.b4⟩
theorem functor_spec (O : Orc C) (k : Nat) {a w : Int} {Q : Post} (h : SymH Y s H) (hn : s.fs.length < 1000) (q : ∀ H', Gr Y.all H H' → SymH Y (s.functor a w).2 H' → Q (.d (.int (s.functor a w).1)) H') : C (k + 1) (.me .sym "functor") [.r Y.sy, .d (.int a), .d (.int w)] H Q := by
  refine intro3 O def_sym_functor (by decide) (by decide) (by decide) fun f f1 f2 f3 => ?_
  have a3 : attV H "functors" (.r Y.sy) (.r Y.fa) := h.att (by kernel_rfl)
  have a4 : attV H "functor_numbers" (.r Y.sy) (.r Y.nf) := h.att (by kernel_rfl)
  have h0 := h
  obtain ⟨hv, hl, bd⟩ := h
  have hfa := hv.get 4 rfl
  tb_start
  refine eGetT (ofAtt (by k_caught0) a4) (hv.get 5 rfl) ?_
  tb_start
  refine getT (hv.get 5 rfl) ?_
  tb_start
  unfold Sy.functor at q
  refine ifD (fun z => ?_) (fun z => ?_)
  · rw [if_pos z] at q
    tb_start
    exact q H (Gr.refl _ _) h0
  · rw [if_neg z] at q
    have hel : (encF s.fs).length = s.fs.length := List.length_map ..
    tb_start
    refine appOf hfa (by rw [hel]; exact Nat.lt_trans hn (by decide)) ?_
    have hv2 := hv.upd 4 rfl (.lst (encF s.fs ++ [.tup [.int a, .int w]]))
    have a3 := attI (hv2.get 0 rfl) (hv2.get 1 rfl) (z := "functor_numbers") (v := .r Y.nf) (by kernel_rfl)
    tb_start
    refine ssDt (hv2.get 5 rfl) (Nat.lt_of_le_of_lt bd.b4 (Nat.lt_trans hn (by decide))) ?_
    tb_start
    have hv3 := hv2.upd 5 rfl (.dt (putK [a, w] s.fs.length s.fn))
    have hsn : encF s.fs ++ [.tup [.int a, .int w]] = encF (s.fs ++ [(a, w)]) := (List.map_append (l₁ := s.fs) (l₂ := [(a, w)])).symm
    rw [hsn] at hv3 ⊢
    rw [hel]
    have hlen : (s.fs ++ [(a, w)]).length = s.fs.length + 1 := List.length_append
    exact q _ ((gr_mem (.tail _ (.tail _ (.tail _ (.tail _ (.head _)))))).tr (gr_mem (.tail _ (.tail _ (.tail _ (.tail _ (.tail _ (.head _)))))))) ⟨hv3, hl, bd.b1, bd.b2, by rw [hlen]; exact hn, by rw [hlen]; exact Nat.le_trans (putK_len _ _ _) (Nat.succ_le_succ bd.b4)⟩
end
theorem Sy.atom_n (s : Sy) (t : Str) : (s.atom t).2.n ≤ s.n + 1 ∧ (s.atom t).2.fs = s.fs := by
  unfold Sy.atom
  split
  · exact ⟨Nat.le_succ _, rfl⟩
  · exact ⟨Nat.le_refl _, rfl⟩
theorem Sy.functor_n (s : Sy) (a w : Int) : (s.functor a w).2.n = s.n ∧ (s.functor a w).2.fs.length ≤ s.fs.length + 1 := by
  unfold Sy.functor
  split
  · exact ⟨rfl, Nat.le_succ _⟩
  · exact ⟨rfl, Nat.le_of_eq List.length_append⟩
theorem foldl_take {α β : Type} (g : α → β → α) (x : α) (l : List β) (i : Nat) (d : β) (h : l[i]? = some d) : (l.take (i + 1)).foldl g x = g ((l.take i).foldl g x) d := by
  rw [List.take_add_one, h, List.foldl_append]; rfl
section
variable {C : Nat → Oracle} {Y : YA} {s : Sy} {H : AH}
theorem func_spec (O : Orc C) (k : Nat) {t : Str} {w : Int} {Q : Post} (h : SymH Y s H) (hn : s.n < 1000) (hf : s.fs.length < 1000) (q : ∀ H' z, Gr Y.all H H' → SymH Y (s.row (t, w)) H' → Q (.d (.int z)) H') : C (k + 2) (.me .sym "func") [.r Y.sy, .d (.str t), .d (.int w)] H Q := by
  refine intro3 O def_sym_func (by decide) (by decide) (by decide) fun f f1 f2 f3 => ?_
  tb_start
  refine eMet (ofLoc f1) h.sy h.dy (by kernel_rfl) ?_
  tb_start
  refine eMet (ofLoc f1) h.sy h.dy (by kernel_rfl) ?_
  tb_start
  refine atom_spec O k h hn fun H1 g1 h1 => ?_
  tb_start
  refine functor_spec O k h1 (by rw [(s.atom_n t).2]; exact hf) fun H2 g2 h2 => ?_
  exact q _ _ (g1.tr g2) h2
theorem esMap {α : Type} {C : Oracle} {f : Frm} {g : α → IE} (v : α → Dt) (hg : ∀ x (Q : Post), Q (.d (v x)) H → We C (g x) f H Q) : ∀ (l : List α) {R : List AV → AH → Prop}, R (l.map fun x => .d (v x)) H → Wes C (l.map g) f H R
  | [], _, q => q
  | x :: l, R, q => hg x _ (esMap v hg l (R := fun vs H => R (.d (v x) :: vs) H) q)
theorem atomD_ir : ir_fn_fixed_atoms = [.ret (.tup (atomD.map fun s => .con (.str s)))] := by kernel_rfl
theorem rowD_ir : ir_fn_fixed_functors = [.ret (.tup (rowD.map fun p => .tup [.con (.str p.1), .con (.int p.2)]))] := by kernel_rfl
theorem fixed_atoms_spec (O : Orc C) (k : Nat) {Q : Post} (q : Q (.d (.tup (atomD.map .str))) H) : C (k + 1) (.fn "fixed_atoms") [] H Q := by
  refine O.intro (k := k) def_fixed_atoms rfl ?_
  show Wxs _ ir_fn_fixed_atoms _ _ _
  rw [atomD_ir]
  exact sRet (eTup (esMap Dt.str (fun x Q q => eCon q) atomD (.mk (List.map_map ..).symm q)))
theorem fixed_functors_spec (O : Orc C) (k : Nat) {Q : Post} (q : Q (.d (.tup (rowD.map rowE))) H) : C (k + 1) (.fn "fixed_functors") [] H Q := by
  refine O.intro (k := k) def_fixed_functors rfl ?_
  show Wxs _ ir_fn_fixed_functors _ _ _
  rw [rowD_ir]
  exact sRet (eTup (esMap rowE (fun x Q q => eTup (esCons (eCon (esCons (eCon (esNil (tup2 q))))))) rowD (.mk (List.map_map ..).symm q)))
inductive FilI (Y : YA) (H : AH) (n m i : Nat) (s : Sy) (f : Frm) (H' : AH) : Prop
  | mk (f1 : f "self" = some (.r Y.sy)) (g : Gr [Y.dy] H H') (l1 : s.n ≤ n + i) (l2 : s.fs.length ≤ m * i) (S : SymH Y s H') : FilI Y H n m i s f H'
theorem sym_fill (O : Orc C) (k : Nat) {f : Frm} {H1 : AH} {Q : Post} (f1 : f "self" = some (.r Y.sy)) (hs : H Y.sy = some (.inst .sym Y.dy)) (hout : ∀ a ∈ Y.all, a = Y.sy ∨ a = Y.dy ∨ H a = none) (g : Gr [Y.dy] H H1) (S0 : SymH Y sy0 H1)
    (q : ∀ H', Gr [Y.dy] H H' → SymH Y sy2 H' → Q (.d .none) H') : Wxs (C (k + 2)) (ir_sym_init.drop 4) f H1 (retQ Q) := by
  have grY : ∀ {H5 H6 : AH}, Gr [Y.dy] H H5 → Gr Y.all H5 H6 → H6 Y.sy = some (.inst .sym Y.dy) → Gr [Y.dy] H H6 := by
    intro H5 H6 a b c2 x o hx e
    by_cases hm : x ∈ Y.all
    · rcases hout x hm with rfl | rfl | h0
      · rw [hs] at e; rw [← e]; exact c2
      · exact absurd (.head _) hx
      · rw [h0] at e; cases e
    · exact b x o hm (a x o hx e)
  refine sForE ?_
  tb_start
  refine fixed_atoms_spec O (k + 1) (forTup (fun i => FilI Y H 0 0 i ((atomD.take i).foldl (fun s t => (s.atom t).2) sy0)) ⟨f1, g, Nat.le_refl _, Nat.le_refl _, S0⟩ (fun i f H1 d hd I => ?_) fun f H1 I => ?_)
  · obtain ⟨f1, g, l1, l2, S⟩ := I
    rw [List.getElem?_map] at hd
    obtain ⟨t, ht, rfl⟩ := Option.map_eq_some_iff.mp hd
    have hi : i < 29 := (List.getElem?_eq_some_iff.mp ht).1
    tb_start
    refine eMet (ofLoc (by k_caught0)) S.sy S.dy (by kernel_rfl) ?_
    tb_start
    have an := Sy.atom_n ((atomD.take i).foldl (fun s t => (s.atom t).2) sy0) t
    refine atom_spec O (k + 1) S (Nat.lt_of_le_of_lt l1 (by rw [Nat.zero_add]; exact Nat.lt_trans hi (by decide))) fun H2 g2 S2 => ?_
    tb_start
    refine ⟨by k_caught0, grY g g2 S2.sy, ?_, ?_, ?_⟩
    · rw [foldl_take _ _ _ _ _ ht]; exact Nat.le_trans an.1 (Nat.succ_le_succ l1)
    · rw [foldl_take _ _ _ _ _ ht, an.2]; rw [Nat.zero_mul] at l2 ⊢; exact l2
    · rw [foldl_take _ _ _ _ _ ht]; exact S2
  · obtain ⟨f1, g, l1, l2, S⟩ := I
    rw [show (atomD.take (atomD.map Dt.str).length) = atomD from rfl] at l1 l2 S
    tb_start
    refine fixed_functors_spec O (k + 1) (forTup (fun i => FilI Y H 29 1 i ((rowD.take i).foldl Sy.row sy1)) ⟨f1, g, l1, l2, S⟩ (fun i f H1 d hd I => ?_) fun f H1 I => ?_)
    · obtain ⟨f1, g, l1, l2, S⟩ := I
      rw [List.getElem?_map] at hd
      obtain ⟨⟨t, w⟩, ht, rfl⟩ := Option.map_eq_some_iff.mp hd
      have hi : i < 32 := (List.getElem?_eq_some_iff.mp ht).1
      tb_start
      refine eMet (ofLoc (by k_caught0)) S.sy S.dy (by kernel_rfl) ?_
      tb_start
      refine subT0 ?_
      tb_start
      refine subT1 ?_
      tb_start
      have an := Sy.atom_n ((rowD.take i).foldl Sy.row sy1) t
      have fn := Sy.functor_n (((rowD.take i).foldl Sy.row sy1).atom t).2 (((rowD.take i).foldl Sy.row sy1).atom t).1 w
      rw [an.2] at fn
      refine func_spec O k S (Nat.lt_of_le_of_lt l1 (Nat.lt_trans (Nat.add_lt_add_left hi 29) (by decide))) (Nat.lt_of_le_of_lt l2 (by rw [Nat.one_mul]; exact Nat.lt_trans hi (by decide))) fun H2 z g2 S2 => ?_
      tb_start
      refine ⟨by k_caught0, grY g g2 S2.sy, ?_, ?_, ?_⟩
      · rw [foldl_take _ _ _ _ _ ht]; exact Nat.le_trans (Nat.le_of_eq fn.1) (Nat.le_trans an.1 (Nat.succ_le_succ l1))
      · rw [foldl_take _ _ _ _ _ ht]; rw [Nat.one_mul] at l2 ⊢; exact Nat.le_trans fn.2 (Nat.succ_le_succ l2)
      · rw [foldl_take _ _ _ _ _ ht]; exact S2
    · obtain ⟨f1, g, l1, l2, S⟩ := I
      rw [show (rowD.take (rowD.map rowE).length) = rowD from rfl] at S
      tb_start
      exact q _ g S
theorem sym_init_spec (O : Orc C) (k : Nat) {sy dy : Addr} {Q : Post} (hs : H sy = some (.inst .sym dy)) (hd : H dy = some (.ns []))
    (q : ∀ H' Y, Y.sy = sy → Y.dy = dy → Gr [dy] H H' → SymH Y sy2 H' → (∀ a ∈ Y.all, a = sy ∨ a = dy ∨ H a = none) → Q (.d .none) H') : C (k + 3) (.me .sym "__init__") [.r sy] H Q := by
  refine intro1 O def_sym_init fun f f1 => ?_
  have I0 := Ini.start hs hd
  tb_start
  refine I0.newF f1 rfl rfl (by decide) fun tx H1 n1 I1 => ?_
  tb_start
  refine dctS (I1.newF f1 rfl rfl (of_decide_eq_true (by kernel_rfl)) fun an H2 n2 I2 => ?_)
  tb_start
  refine I2.newF f1 rfl rfl (of_decide_eq_true (by kernel_rfl)) fun fa H3 n3 I3 => ?_
  tb_start
  refine dctT (I3.newF f1 rfl rfl (of_decide_eq_true (by kernel_rfl)) fun nf H4 n4 I4 => ?_)
  have hout : ∀ a ∈ (YA.mk sy dy tx an fa nf).all, a = sy ∨ a = dy ∨ H a = none :=
    List.forall_mem_cons.mpr ⟨.inl rfl, List.forall_mem_cons.mpr ⟨.inr (.inl rfl), List.forall_mem_cons.mpr ⟨.inr (.inr n1), List.forall_mem_cons.mpr ⟨.inr (.inr n2), List.forall_mem_cons.mpr ⟨.inr (.inr n3), List.forall_mem_cons.mpr ⟨.inr (.inr n4), fun _ z => (nomatch z)⟩⟩⟩⟩⟩⟩
  exact sym_fill O k (Y := ⟨sy, dy, tx, an, fa, nf⟩) f1 hs hout I4.gr ⟨(I4.hv : Hv ((YA.mk sy dy tx an fa nf).objs sy0 []) H4), rfl, ⟨Nat.zero_le _, Nat.le_refl _, Nat.zero_le _, Nat.le_refl _⟩⟩ fun H' g S => q H' _ rfl rfl g S hout
end
section
variable {C : Nat → Oracle} {Y : YA} {H : AH}
set_option tactic.hygienic true in
theorem store_init_spec (O : Orc C) (k : Nat) {s dx : Addr} {Q : Post} (hY : SymH Y sy2 H) (hs : H s = some (.inst .store dx)) (hd : H dx = some (.ns [])) (hdY : dx ∉ Y.all) (hsY : s ∉ Y.all)
    (q : ∀ H' A, A.s = s → Gr [dx] H H' → StoreH A ⟨[], [], [], 0, 0⟩ H' → (∀ a ∈ A.all, a = s ∨ a = dx ∨ a ∈ Y.all ∨ H a = none) → Q (.d .none) H') : C (k + 1) (.me .store "__init__") [.r s, .r Y.sy] H Q := by
  obtain ⟨a, b, h12, h13⟩ := sy2_fs
  have I0 := Ini.start hs hd
  obtain ⟨hv, _, _⟩ := hY
  rename_i ds _ _
  have sub : ([(Y.sy, .inst .sym Y.dy), (Y.dy, .ns [("texts", .r Y.tx), ("atom_numbers", .r Y.an), ("functors", .r Y.fa), ("functor_numbers", .r Y.nf)]), (Y.fa, .lst (encF sy2.fs))] : List (Addr × AO)).Sublist (Y.objs sy2 ds) := .cons_cons _ (.cons_cons _ (.cons _ (.cons _ (.cons_cons _ (.cons _ .slnil)))))
  have hv1 := I0.hv.append (hv.sub sub) fun x hx z => by
    have z2 := (sub.map (·.1)).subset z
    rcases List.mem_cons.mp hx with e | hx
    · rw [e] at z2; exact hsY z2
    · rw [List.mem_singleton.mp hx] at z2; exact hdY z2
  have I1 : Ini H dx _ H := ⟨hv1, Gr.refl _ _⟩
  refine intro3d O def_store_init (by decide) (by decide) (by decide) fun f f1 f2 f3 => ?_
  tb_start
  refine I1.sat rfl rfl (of_decide_eq_true (by kernel_rfl)) fun H2 I2 => ?_
  tb_start
  refine I2.sat rfl rfl (of_decide_eq_true (by kernel_rfl)) fun H3 I3 => ?_
  tb_start
  refine I3.newF f1 rfl rfl (of_decide_eq_true (by kernel_rfl)) fun ha H4 n1 I4 => ?_
  tb_start
  refine I4.newF f1 rfl rfl (of_decide_eq_true (by kernel_rfl)) fun sa H5 n2 I5 => ?_
  tb_start
  refine I5.newF f1 rfl rfl (of_decide_eq_true (by kernel_rfl)) fun ta H6 n3 I6 => ?_
  tb_start
  refine I6.sat rfl rfl (of_decide_eq_true (by kernel_rfl)) fun H7 I7 => ?_
  tb_start
  refine I7.sat rfl rfl (of_decide_eq_true (by kernel_rfl)) fun H8 I8 => ?_
  tb_start
  refine q _ ⟨s, dx, Y.sy, Y.dy, Y.fa, ha, sa, ta⟩ rfl I8.gr ⟨(I8.hv : Hv ((SA.mk s dx Y.sy Y.dy Y.fa ha sa ta).objs ⟨[], [], [], 0, 0⟩ Y.tx Y.an Y.nf (encF sy2.fs)) H8), h12, h13⟩ ?_
  have mY : ∀ x ∈ [Y.sy, Y.dy, Y.fa], x ∈ Y.all := fun x hx => (sub.map (·.1)).subset hx
  exact List.forall_mem_cons.mpr ⟨.inl rfl, List.forall_mem_cons.mpr ⟨.inr (.inl rfl), List.forall_mem_cons.mpr ⟨.inr (.inr (.inl (mY _ (.head _)))), List.forall_mem_cons.mpr ⟨.inr (.inr (.inl (mY _ (.tail _ (.head _))))),
    List.forall_mem_cons.mpr ⟨.inr (.inr (.inl (mY _ (.tail _ (.tail _ (.head _)))))), List.forall_mem_cons.mpr ⟨.inr (.inr (.inr n1)), List.forall_mem_cons.mpr ⟨.inr (.inr (.inr n2)), List.forall_mem_cons.mpr ⟨.inr (.inr (.inr n3)), fun _ z => (nomatch z)⟩⟩⟩⟩⟩⟩⟩⟩
theorem new_store_rule (O : Orc C) (k : Nat) {f : Frm} {Q : Post} (q : ∀ H' A, Gr [] H H' → StoreH A ⟨[], [], [], 0, 0⟩ H' → (∀ a ∈ A.all, H a = none) → Q (.r A.s) H') : We (C (k + 3)) (.new .store [(.new .sym [])]) f H Q := by
  refine eNew ?_
  tb_start
  refine eNew ?_
  tb_start
  intro y dy H1 hy hdy h1 h2 g0
  refine sym_init_spec O k h1 h2 fun H2 Y e1 e2 g2 S hout => ?_
  have nil : ∀ {a : Addr}, a ∉ ([] : List Addr) := fun z => (nomatch z)
  have gr2 : Gr [] H H2 := g0.trans g2 fun x hx => by rw [List.mem_singleton.mp hx]; exact .inr hdy
  have hYn : ∀ a ∈ Y.all, H a = none := fun a ha => by
    rcases hout a ha with rfl | rfl | h
    · exact hy
    · exact hdy
    · exact g0.back h nil
  tb_start
  intro s dx H3 hs hdx k1 k2 g3
  have gr3 : Gr [] H H3 := gr2.tr g3
  rw [← e1]
  refine store_init_spec O (k + 2) (S.keep fun b hb o e => g3 b o nil e) k1 k2 (fun hm => by obtain ⟨o, e⟩ := S.has dx hm; rw [hdx] at e; cases e) (fun hm => by obtain ⟨o, e⟩ := S.has s hm; rw [hs] at e; cases e) fun H4 A eA g4 S4 hall => ?_
  have hd0 : H dx = none := gr2.back hdx nil
  tb_start
  rw [← eA]
  refine q H4 A (gr3.trans g4 fun x hx => by rw [List.mem_singleton.mp hx]; exact .inr hd0) S4 fun a ha => ?_
  rcases hall a ha with rfl | rfl | h | h
  · exact gr2.back hs nil
  · exact hd0
  · exact hYn a h
  · exact gr3.back h nil
end
end
section
open PySem
structure Val where
  h : Nat → T
  s : Nat → T
noncomputable def Val.of (F : Nat → Option Nat) (m : Val) : Ce → T
  | .ref n => m.h n
  | .srf n => m.s n
  | .str a => if F a = some 12 then .u (m.h (a + 1)) else .b false (m.h (a + 1)) (m.h (a + 2))
  | .lis a => .b true (m.h a) (m.h (a + 1))
  | .con n => .a n
  | .int z => .i z
  | .fn _ => .a 0
noncomputable def Val.sub (m : Val) (σ : Nat → T) : Val := ⟨fun a => (m.h a).sub σ, fun a => (m.s a).sub σ⟩
theorem Val.sub_of (F : Nat → Option Nat) (m : Val) (σ : Nat → T) (c : Ce) : (m.sub σ).of F c = (m.of F c).sub σ := by
  cases c with
  | str a => simp only [Val.of]; split <;> rfl
  | _ => rfl
structure Ly where
  n : Nat
  fn : Nat → Option Nat
  K : List Nat
noncomputable def Ly.vc (L : Ly) (a : Nat) : Prop := a < L.n ∧ L.fn a = none
noncomputable def Ly.cell (L : Ly) : Ce → Prop
  | .ref n => L.vc n
  | .srf n => n < 2
  | .str b => b ∈ L.K ∧ ((L.fn b = some 12 ∧ L.vc (b + 1)) ∨ (L.fn b = some 13 ∧ L.vc (b + 1) ∧ L.vc (b + 2)))
  | .lis b => b ∈ L.K ∧ L.vc b ∧ L.vc (b + 1)
  | .fn _ => False
  | _ => True
noncomputable def Sx.at (x : Sx) : Ce → Option Ce
  | .ref a => match x.heap[a]? with
    | some (.fn _) => none
    | o => o
  | .srf i => x.stack[i]?
  | _ => none
noncomputable def Ce.noFn : Ce → Prop
  | .fn _ => False
  | _ => True
theorem Sx.at_ref {x : Sx} {a : Nat} {d : Ce} : x.at (.ref a) = some d ↔ x.heap[a]? = some d ∧ d.noFn := by
  simp only [Sx.at]
  cases h : x.heap[a]? with
  | none => simp
  | some c =>
    cases c with
    | fn f =>
      constructor
      · intro z; cases z
      · rintro ⟨e, z⟩; cases e; exact z.elim
    | _ =>
      constructor
      · intro z; cases z; exact ⟨rfl, trivial⟩
      · intro z; exact z.1
theorem Sx.at_srf {x : Sx} {i : Nat} {d : Ce} : x.at (.srf i) = some d ↔ x.stack[i]? = some d := Iff.rfl
structure WF (L : Ly) (x : Sx) : Prop where
  hl : x.heap.length = L.n
  sl : x.stack.length = 2
  lt : L.n ≤ 1000
  kl : L.K.length ≤ 28
  fnc : ∀ a f, x.heap[a]? = some (.fn f) ↔ L.fn a = some f
  ok : ∀ c d, x.at c = some d → L.cell d ∧ d.num ≤ c.num
noncomputable def Mod (L : Ly) (x : Sx) (m : Val) : Prop := ∀ c d, x.at c = some d → m.of L.fn c = m.of L.fn d
section
variable {L : Ly} {x : Sx}
theorem Ly.cell_noFn {c : Ce} (h : L.cell c) : c.noFn := by cases c <;> first | trivial | exact h.elim
theorem WF.dom_ref (W : WF L x) {n : Nat} (h : L.vc n) : ∃ d, x.at (.ref n) = some d := by
  have hn : n < x.heap.length := by rw [W.hl]; exact h.1
  refine ⟨x.heap[n], Sx.at_ref.mpr ⟨List.getElem?_eq_getElem hn, ?_⟩⟩
  cases hc : x.heap[n] with
  | fn f =>
    have := (W.fnc n f).mp (by rw [List.getElem?_eq_getElem hn, hc])
    rw [h.2] at this; cases this
  | _ => trivial
theorem WF.dom_srf (W : WF L x) {n : Nat} (h : n < 2) : ∃ d, x.at (.srf n) = some d := ⟨_, List.getElem?_eq_getElem (by rw [W.sl]; exact h)⟩
theorem WF.at_vc (W : WF L x) {n : Nat} {d : Ce} (h : x.at (.ref n) = some d) : L.vc n := by
  rw [Sx.at_ref] at h
  refine ⟨by rw [← W.hl]; exact (List.getElem?_eq_some_iff.mp h.1).1, ?_⟩
  cases hf : L.fn n with
  | none => rfl
  | some f =>
    have := (W.fnc n f).mpr hf
    rw [h.1] at this; cases this; exact h.2.elim
theorem WF.at_cell (W : WF L x) {c d : Ce} (h : x.at c = some d) : L.cell c := by
  cases c with
  | ref n => exact W.at_vc h
  | srf n =>
    have := (List.getElem?_eq_some_iff.mp (Sx.at_srf.mp h)).1
    rw [W.sl] at this; exact this
  | _ => cases h
theorem num_inj (hL : L.n ≤ 1000) {c d : Ce} (hc : L.cell c) (hd : L.cell d) (vc : c.tag = 0 ∨ c.tag = 1) (vd : d.tag = 0 ∨ d.tag = 1) (h : c.num = d.num) : c = d := by
  cases c <;> cases d <;> simp [Ce.tag] at vc vd <;> simp only [Ce.num] at h
  · rw [h]
  · have : _ < L.n := hc.1
    omega
  · have : _ < L.n := hd.1
    omega
  · congr 1; omega
inductive DerS (L : Ly) (x : Sx) (c : Ce) : Prop
  | mk (n : Nat) (e : Ce) (h1 : Der x.heap x.stack n c e) (h2 : L.cell e) (h3 : e.num ≤ c.num) (h4 : 2 ≤ e.tag ∨ x.at e = some e) (h5 : ∀ m, Mod L x m → m.of L.fn c = m.of L.fn e) : DerS L x c
theorem Der.self {c : Ce} (h : x.at c = some c) : Der x.heap x.stack 0 c c := by
  cases c with
  | ref n => exact .selfr (Sx.at_ref.mp h).1
  | srf n => exact .selfs h
  | _ => cases h
theorem Der.step {k : Nat} {c d e : Ce} (h : x.at c = some d) (hne : d ≠ c) (hd : Der x.heap x.stack k d e) : Der x.heap x.stack (k + 1) c e := by
  cases c with
  | ref n => exact .ref (Sx.at_ref.mp h).1 hne hd
  | srf n => exact .srf h hne hd
  | _ => cases h
theorem Ce.tag_lo {c : Ce} (h : ¬ 2 ≤ c.tag) : c.tag = 0 ∨ c.tag = 1 := by
  cases c <;> first | exact .inl rfl | exact .inr rfl | exact absurd (of_decide_eq_true rfl) h
theorem WF.dom (W : WF L x) {c : Ce} (hc : L.cell c) (h : ¬ 2 ≤ c.tag) : ∃ d, x.at c = some d := by
  cases c with
  | ref n => exact W.dom_ref hc
  | srf n => exact W.dom_srf hc
  | _ => exact absurd (of_decide_eq_true rfl) h
theorem WF.der (W : WF L x) : ∀ (N : Nat) {c : Ce}, c.num < N → L.cell c → DerS L x c := by
  intro N
  induction N with
  | zero => intro c h; cases h
  | succ N ih =>
    intro c hN hc
    by_cases h : 2 ≤ c.tag
    · exact ⟨0, c, .val h, hc, Nat.le_refl _, .inl h, fun _ _ => rfl⟩
    obtain ⟨d, hd⟩ := W.dom hc h
    obtain ⟨ho, hle⟩ := W.ok _ _ hd
    by_cases e : d = c
    · rw [e] at hd
      exact ⟨0, c, .self hd, hc, Nat.le_refl _, .inr hd, fun _ _ => rfl⟩
    by_cases hv : 2 ≤ d.tag
    · exact ⟨1, d, .step hd e (.val hv), ho, hle, .inl hv, fun m hm => hm _ _ hd⟩
    obtain ⟨n, f, h1, h2, h3, h4, h5⟩ := ih (Nat.lt_of_lt_of_le (Nat.lt_of_le_of_ne hle fun z => e (num_inj W.lt ho hc (Ce.tag_lo hv) (Ce.tag_lo h) z)) (Nat.le_of_lt_succ hN)) ho
    exact ⟨n + 1, f, .step hd e h1, h2, Nat.le_trans h3 hle, h4, fun m hm => (hm _ _ hd).trans (h5 m hm)⟩
open Classical in
theorem bind_at {c v : Ce} (hc : x.at c = some c) (hv : v.noFn) (d : Ce) : (x.bind c v).at d = if d = c then some v else x.at d := by
  cases c with
  | ref n =>
    have h := Sx.at_ref.mp hc
    have hn := (List.getElem?_eq_some_iff.mp h.1).1
    cases d with
    | ref a =>
      by_cases e : a = n
      · subst e
        rw [if_pos rfl]
        refine Sx.at_ref.mpr ⟨?_, hv⟩
        simp only [Sx.bind, List.getElem?_set, if_true, hn]
      · rw [if_neg (by simpa using e)]
        have hne : ¬ n = a := fun z => e z.symm
        simp only [Sx.bind, Sx.at, List.getElem?_set, hne, if_false]
    | _ => rw [if_neg (by simp)]; rfl
  | srf n =>
    have h := Sx.at_srf.mp hc
    have hn := (List.getElem?_eq_some_iff.mp h).1
    cases d with
    | srf a =>
      by_cases e : a = n
      · subst e
        rw [if_pos rfl]
        simp only [Sx.bind, Sx.at, List.getElem?_set, if_true, hn]
      · rw [if_neg (by simpa using e)]
        have hne : ¬ n = a := fun z => e z.symm
        simp only [Sx.bind, Sx.at, List.getElem?_set, hne, if_false]
    | _ => rw [if_neg (by simp)]; rfl
  | _ => cases hc
theorem bind_heap {c v : Ce} : (x.bind c v).heap.length = x.heap.length ∧ (x.bind c v).stack.length = x.stack.length := by
  cases c <;> simp [Sx.bind]
theorem WF.bind (W : WF L x) {c v : Ce} (hc : x.at c = some c) (hv : L.cell v) (hn : v.num ≤ c.num) : WF L (x.bind c v) := by
  have hf := L.cell_noFn hv
  refine ⟨by rw [bind_heap.1]; exact W.hl, by rw [bind_heap.2]; exact W.sl, W.lt, W.kl, fun a f => ?_, fun a d h => ?_⟩
  · rw [← W.fnc a f]
    cases c with
    | ref n =>
      have h := Sx.at_ref.mp hc
      have hn := (List.getElem?_eq_some_iff.mp h.1).1
      simp only [Sx.bind, List.getElem?_set]
      by_cases e : n = a
      · subst e
        rw [if_pos rfl, if_pos hn, h.1]
        constructor
        · intro z; cases z; exact hf.elim
        · intro z; cases z
      · rw [if_neg e]
    | srf n => exact Iff.rfl
    | _ => cases hc
  · rw [bind_at hc hf] at h
    split at h
    · rename_i e; cases h; subst e; exact ⟨hv, hn⟩
    · exact W.ok _ _ h
theorem Mod.bind_iff {c v : Ce} (hc : x.at c = some c) (hf : v.noFn) (m : Val) : Mod L (x.bind c v) m ↔ Mod L x m ∧ m.of L.fn c = m.of L.fn v := by
  constructor
  · intro h
    have h0 : m.of L.fn c = m.of L.fn v := h c v (by rw [bind_at hc hf, if_pos rfl])
    refine ⟨fun a d hd => ?_, h0⟩
    by_cases e : a = c
    · subst e; rw [hc] at hd; cases hd; rfl
    · exact h a d (by rw [bind_at hc hf, if_neg e]; exact hd)
  · rintro ⟨h, h0⟩ a d hd
    rw [bind_at hc hf] at hd
    split at hd
    · rename_i e; cases hd; subst e; exact h0
    · exact h a d hd
noncomputable def Ce.nam (nm : Nat → Nat) : Ce → Nat
  | .ref n => nm n
  | .srf n => 5 + n
  | _ => 0
noncomputable def Val.key (m : Val) : Nat → T := fun k => if k < 5 then m.h k else m.s (k - 5)
structure Gen (L : Ly) (nm : Nat → Nat) (x : Sx) (G : Val) : Prop where
  mod : Mod L x G
  un : ∀ c, x.at c = some c → G.of L.fn c = .v (c.nam nm)
  lt7 : ∀ c, x.at c = some c → c.nam nm < 7
  inj : ∀ c d, x.at c = some c → x.at d = some d → c.nam nm = d.nam nm → c = d
  lo : ∀ a, L.vc a → ∀ k, (G.h a).occ k → ∃ n, x.at (.ref n) = some (.ref n) ∧ nm n = k
  gen : ∀ m, Mod L x m → ∀ c, L.cell c → m.of L.fn c = (G.of L.fn c).sub m.key
theorem Gen.locell {nm : Nat → Nat} {G : Val} (g : Gen L nm x G) {c : Ce} (hc : L.cell c) (ht : c.tag ≠ 1) {k : Nat} (ho : (G.of L.fn c).occ k) : ∃ n, x.at (.ref n) = some (.ref n) ∧ nm n = k := by
  cases c with
  | ref n => exact g.lo n hc k ho
  | srf n => exact absurd rfl ht
  | str a =>
    simp only [Val.of] at ho
    rcases hc.2 with ⟨h1, h2⟩ | ⟨h1, h2, h3⟩
    · rw [if_pos h1] at ho; exact g.lo _ h2 k ho
    · rw [if_neg (by rw [h1]; simp)] at ho
      rcases ho with ho | ho
      · exact g.lo _ h2 k ho
      · exact g.lo _ h3 k ho
  | lis a =>
    rcases ho with ho | ho
    · exact g.lo _ hc.2.1 k ho
    · exact g.lo _ hc.2.2 k ho
  | con n => exact ho.elim
  | int n => exact ho.elim
  | fn n => exact ho.elim
theorem occ_sub2 {σ : Nat → T} {k : Nat} {t : T} (h : (t.sub σ).occ k) : ∃ m, t.occ m ∧ (σ m).occ k := occ_sub.mp h
theorem Gen.bind {nm : Nat → Nat} {G : Val} (W : WF L x) (g : Gen L nm x G) {c v : Ce} (hc : x.at c = some c) (hv : L.cell v) (hn : v.num ≤ c.num) (ho : ¬ (G.of L.fn v).occ (c.nam nm)) (ht : c.tag = 0 → v.tag ≠ 1) :
    Gen L nm (x.bind c v) (G.sub fun m => if m = c.nam nm then G.of L.fn v else .v m) := by
  have hf := L.cell_noFn hv
  have stay : ∀ u : T, ¬ u.occ (c.nam nm) → u.sub (fun m => if m = c.nam nm then G.of L.fn v else .v m) = u := fun u hu => by
    conv => rhs; rw [← T.sub_v u]
    exact T.sub_congr fun n hn => if_neg fun e : n = c.nam nm => hu (by rw [← e]; exact hn)
  have hGc := g.un c hc
  have hne : v ≠ c := fun e => by rw [e, hGc] at ho; exact ho rfl
  have hun : ∀ d, (x.bind c v).at d = some d → d ≠ c ∧ x.at d = some d := fun d hd => by
    rw [bind_at hc hf] at hd
    split at hd
    · rename_i e; cases hd; exact absurd e hne
    · rename_i e; exact ⟨e, hd⟩
  refine ⟨?_, fun d hd => ?_, fun d hd => g.lt7 d (hun d hd).2, fun d e hd he => g.inj d e (hun d hd).2 (hun e he).2, fun a ha k hk => ?_, fun m hm d hd => ?_⟩
  · rw [Mod.bind_iff hc hf]
    refine ⟨fun a d hd => ?_, ?_⟩
    · rw [Val.sub_of, Val.sub_of, g.mod a d hd]
    · rw [Val.sub_of, Val.sub_of, hGc, stay _ ho]
      exact if_pos rfl
  · obtain ⟨h1, h2⟩ := hun d hd
    rw [Val.sub_of, g.un d h2]
    exact if_neg fun e => h1 (g.inj d c h2 hc e)
  · obtain ⟨j, h1, h2⟩ := occ_sub2 (t := G.h a) hk
    have keep : ∀ n, x.at (.ref n) = some (.ref n) → nm n = k → k ≠ c.nam nm → ∃ n, (x.bind c v).at (.ref n) = some (.ref n) ∧ nm n = k := fun n h3 h4 h5 =>
      ⟨n, by rw [bind_at hc hf, if_neg (fun e => h5 (by rw [← h4, ← e]; rfl))]; exact h3, h4⟩
    by_cases e : j = c.nam nm
    · rw [if_pos e] at h2
      have ht1 : c.tag = 0 := by
        obtain ⟨n, h3, h4⟩ := g.lo a ha j h1
        have : Ce.ref n = c := g.inj _ _ h3 hc (by rw [← e, ← h4]; rfl)
        rw [← this]; rfl
      obtain ⟨n, h3, h4⟩ := g.locell hv (ht ht1) h2
      exact keep n h3 h4 fun z => ho (by rw [← z]; exact h2)
    · rw [if_neg e] at h2
      have : j = k := h2
      subst this
      obtain ⟨n, h3, h4⟩ := g.lo a ha j h1
      exact keep n h3 h4 e
  · obtain ⟨h1, h2⟩ := (Mod.bind_iff hc hf m).mp hm
    rw [Val.sub_of, T.sub_sub, g.gen m h1 d hd]
    refine T.sub_congr fun j _ => ?_
    by_cases e : j = c.nam nm
    · rw [if_pos e, ← g.gen m h1 v hv, ← h2, g.gen m h1 c (W.at_cell hc), hGc, e]; rfl
    · rw [if_neg e]; rfl
end
theorem dec_ar {e W z n : Nat} (hz : z ≤ 2) (hn : n = 3 * (e + 1) + (W + 1)) : 3 * e + (W + z) < n := Nat.lt_of_le_of_lt (Nat.add_le_add_left (Nat.add_le_add_left hz _) _) (by omega)
theorem arg_sz {t u : T} (h : u ∈ t.args) : u.sz < t.sz := by
  cases t with
  | u t => simp [T.args] at h; subst h; simp [T.sz]
  | b d s t =>
    simp [T.args] at h
    rcases h with rfl | rfl <;> simp only [T.sz] <;> omega
  | _ => simp [T.args] at h
theorem occ_args {j : Nat} {t : T} (h : t.mark = "s") : t.occ j ↔ ∃ u ∈ t.args, u.occ j := by
  cases t <;> first | (simp [T.mark] at h; done) | simp [T.args, T.occ]
theorem of_str12 {F : Nat → Option Nat} {m : Val} {a : Nat} (h : F a = some 12) : m.of F (.str a) = .u (m.of F (.ref (a + 1))) := by simp only [Val.of, h, if_true]
theorem of_str13 {F : Nat → Option Nat} {m : Val} {a : Nat} (h : F a = some 13) : m.of F (.str a) = .b false (m.of F (.ref (a + 1))) (m.of F (.ref (a + 2))) := by
  have hne : ¬ (some 13 = some 12) := by decide
  simp only [Val.of, h, hne, if_false]
theorem of_lis {F : Nat → Option Nat} {m : Val} {a : Nat} : m.of F (.lis a) = .b true (m.of F (.ref a)) (m.of F (.ref (a + 1))) := rfl
section
variable {L : Ly} {x : Sx}
inductive BlkS (L : Ly) (x : Sx) (c : Ce) : Prop
  | mk (cs : List Ce) (f : Nat) (h1 : Blk x.heap c cs) (h2 : c.fnum x.heap = some f) (h3 : ∀ a, c = .str a → f ≠ 0 ∧ x.heap[a]? = some (.fn f)) (h4 : ∀ d ∈ cs, L.cell d ∧ d.num < 1000000)
    (b : Nat) (h5 : b ∈ L.K) (h6 : c.val = (b : Int)) (h7 : b < L.n) (h8 : ∀ m, Mod L x m → (m.of L.fn c).mark = "s" ∧ (m.of L.fn c).fnum = (f : Int) ∧ (m.of L.fn c).args = cs.map (m.of L.fn)) : BlkS L x c
theorem WF.blk (W : WF L x) {c : Ce} (hc : L.cell c) (ht : c.tag = 2 ∨ c.tag = 3) : BlkS L x c := by
  have hp : ∀ {a : Nat}, L.vc a → ∃ d, x.heap[a]? = some d ∧ (L.cell d ∧ d.num < 1000000) ∧ ∀ m, Mod L x m → m.of L.fn (.ref a) = m.of L.fn d := fun {a} h => by
    obtain ⟨d, hd⟩ := W.dom_ref h
    have h1 := W.ok _ _ hd
    exact ⟨d, (Sx.at_ref.mp hd).1, ⟨h1.1, Nat.lt_of_le_of_lt h1.2 (Nat.lt_of_lt_of_le h.1 (Nat.le_trans W.lt (by decide)))⟩, fun m hm => hm _ _ hd⟩
  have h2 : ∀ {P : Ce → Prop} {d e : Ce}, P d → P e → ∀ y ∈ [d, e], P y := fun hd he => List.forall_mem_cons.mpr ⟨hd, List.forall_mem_cons.mpr ⟨he, fun _ z => (nomatch z)⟩⟩
  rcases tag_cmp ht with ⟨a, rfl⟩ | ⟨a, rfl⟩
  · obtain ⟨hk, hc⟩ := hc
    have hl : ∀ {f : Nat}, L.fn a = some f → x.heap[a]? = some (.fn f) ∧ a < L.n ∧ (Ce.str a).fnum x.heap = some f := fun {f} hf => by
      have hh := (W.fnc a f).mpr hf
      refine ⟨hh, by rw [← W.hl]; exact (List.getElem?_eq_some_iff.mp hh).1, ?_⟩
      show fnOf x.heap[a]? = some f; rw [hh]; rfl
    rcases hc with ⟨h1, h2⟩ | ⟨h1, h2', h3⟩
    · obtain ⟨d, hd, hd2, hd3⟩ := hp h2
      obtain ⟨hh, hlt, hf⟩ := hl h1
      exact ⟨[d], 12, .u hh hd, hf, fun b e => by cases e; exact ⟨by decide, hh⟩, fun e he => by rw [List.mem_singleton.mp he]; exact hd2, a, hk, rfl, hlt, fun m hm => by
        rw [of_str12 h1, hd3 m hm]; exact ⟨rfl, rfl, rfl⟩⟩
    · obtain ⟨d, hd, hd2, hd3⟩ := hp h2'
      obtain ⟨e, he, he2, he3⟩ := hp h3
      obtain ⟨hh, hlt, hf⟩ := hl h1
      exact ⟨[d, e], 13, .b hh hd he, hf, fun b e => by cases e; exact ⟨by decide, hh⟩, h2 hd2 he2, a, hk, rfl, hlt, fun m hm => by
        rw [of_str13 h1, hd3 m hm, he3 m hm]; exact ⟨rfl, rfl, rfl⟩⟩
  · obtain ⟨hk, h2', h3⟩ := hc
    obtain ⟨d, hd, hd2, hd3⟩ := hp h2'
    obtain ⟨e, he, he2, he3⟩ := hp h3
    exact ⟨[d, e], 0, .l hd he, rfl, (fun b e => by cases e), h2 hd2 he2, a, hk, rfl, h2'.1, fun m hm => by
      rw [of_lis, hd3 m hm, he3 m hm]; exact ⟨rfl, rfl, rfl⟩⟩
theorem WF.key (W : WF L x) {c : Ce} (hc : L.cell c) (ht : c.tag = 2 ∨ c.tag = 3) : ∃ b : Nat, b ∈ L.K ∧ c.val = (b : Int) ∧ b < L.n := by
  cases W.blk hc ht with | mk _ _ _ _ _ _ b h5 h6 h7 _ => exact ⟨b, h5, h6, h7⟩
theorem WF.mark (W : WF L x) {c : Ce} (hc : L.cell c) (ht : c.tag = 2 ∨ c.tag = 3) {m : Val} (hm : Mod L x m) : (m.of L.fn c).mark = "s" := by
  cases W.blk hc ht with | mk _ _ _ _ _ _ _ _ _ _ h8 => exact (h8 m hm).1
theorem val_inj {c d : Ce} (hc : L.cell c) (hd : L.cell d) (tc : c.tag = 2 ∨ c.tag = 3) (td : d.tag = 2 ∨ d.tag = 3) (h : c.val = d.val) : c = d := by
  cases c with
  | str a =>
    cases d with
    | str b => simp only [Ce.val] at h; congr 1; omega
    | lis b =>
      have e : a = b := by simp only [Ce.val] at h; omega
      subst e
      have h2 := hd.2.1.2
      rcases hc.2 with ⟨h1, _⟩ | ⟨h1, _⟩ <;> rw [h2] at h1 <;> cases h1
    | _ => simp [Ce.tag] at td
  | lis a =>
    cases d with
    | lis b => simp only [Ce.val] at h; congr 1; omega
    | str b =>
      have e : a = b := by simp only [Ce.val] at h; omega
      subst e
      have h2 := hc.2.1.2
      rcases hd.2 with ⟨h1, _⟩ | ⟨h1, _⟩ <;> rw [h2] at h1 <;> cases h1
    | _ => simp [Ce.tag] at td
  | _ => simp [Ce.tag] at tc
noncomputable def OccCl (V : Ce → T) (j : Nat) (ms ws : List Ce) : Prop := ∀ p ∈ ms, ∀ t ∈ (V p).args, t.occ j → (∃ w ∈ ws, V w = t) ∨ ∃ p' ∈ ms, V p' = t
theorem OccCl.find {V : Ce → T} {j : Nat} {ms ws : List Ce} (h : OccCl V j ms ws) (hm : ∀ p ∈ ms, (V p).mark = "s") : ∀ (n : Nat) (p : Ce), (V p).sz < n → p ∈ ms → (V p).occ j → ∃ w ∈ ws, (V w).occ j := by
  intro n
  induction n with
  | zero => intro p h; cases h
  | succ n ih =>
    intro p hn hp ho
    obtain ⟨t, ht, hto⟩ := (occ_args (hm p hp)).mp ho
    rcases h p hp t ht hto with ⟨w, hw, e⟩ | ⟨p', hp', e⟩
    · exact ⟨w, hw, by rw [e]; exact hto⟩
    · refine ih p' ?_ hp' (by rw [e]; exact hto)
      have := arg_sz ht
      rw [e]; omega
end
end
section
open PySem PySem.W PyProof.Rows
theorem ce_snoc (us : List Ce) (u : Ce) : encC (us ++ [u]) = encC us ++ [u.enc] := List.map_append
theorem ex_snoc {α : Type} {P : α → Prop} {us : List α} {u : α} : (∃ v ∈ us ++ [u], P v) ↔ (∃ v ∈ us, P v) ∨ P u := by
  constructor
  · rintro ⟨v, hv, h⟩
    rcases List.mem_append.mp hv with hv | hv
    · exact .inl ⟨v, hv, h⟩
    · rw [List.mem_singleton.mp hv] at h; exact .inr h
  · rintro (⟨v, hv, h⟩ | h)
    · exact ⟨v, List.mem_append_left _ hv, h⟩
    · exact ⟨u, List.mem_append_right _ (.head _), h⟩
section
variable {C : Nat → Oracle} {A : SA} {x : Sx} {H : AH} {L : Ly} {nm : Nat → Nat} {G : Val}
theorem const_no {F : Nat → Option Nat} {e : Ce} {j : Nat} (h : 4 ≤ e.tag) : ¬ (G.of F e).occ j := by
  cases e <;> first | exact fun z => z | exact absurd h (of_decide_eq_true rfl : ¬ _)
structure OccS (L : Ly) (G : Val) (j : Nat) (t : T) (n : Nat) (ws ms : List Ce) : Prop where
  hn : ∃ c, c + ms.length = L.K.length ∧ n = 3 * c + ws.length
  hb : n ≤ 100
  hws : ∀ u ∈ ws, L.cell u ∧ u.num < 1000000
  hnd : (ms.map fun p => p.val.toNat).Nodup
  hms : ∀ p ∈ ms, L.cell p ∧ (p.tag = 2 ∨ p.tag = 3)
  hcl : OccCl (G.of L.fn) j ms ws
  hocc : t.occ j ↔ ∃ u ∈ ws, (G.of L.fn u).occ j
section
variable {j n : Nat} {t : T} {us ms : List Ce} {u : Ce}
theorem OccS.skip (W : WF L x) (g : Mod L x G) (S : OccS L G j t n (us ++ [u]) ms) (hr : (∃ p ∈ ms, G.of L.fn p = G.of L.fn u) ∨ ¬ (G.of L.fn u).occ j) : ∃ n', n' < n ∧ OccS L G j t n' us ms := by
  have hcl2 : OccCl (G.of L.fn) j ms us := fun p hp t ht hto => by
    rcases S.hcl p hp t ht hto with h | hx
    · rcases ex_snoc.mp h with h | e
      · exact .inl h
      · rcases hr with ⟨p', hp', e'⟩ | hno
        · exact .inr ⟨p', hp', e'.trans e⟩
        · rw [← e] at hto; exact absurd hto hno
    · exact .inr hx
  obtain ⟨e0, he0, hn⟩ := S.hn
  rw [List.length_append, List.length_singleton] at hn
  have hlt0 : 3 * e0 + us.length < n := by rw [hn]; exact Nat.lt_succ_self _
  refine ⟨3 * e0 + us.length, hlt0, ⟨e0, he0, rfl⟩, Nat.le_trans (Nat.le_of_lt hlt0) S.hb, fun v hv => S.hws v (List.mem_append_left _ hv), S.hnd, S.hms, hcl2, S.hocc.trans ⟨fun h => ?_, fun h => ex_snoc.mpr (.inl h)⟩⟩
  rcases ex_snoc.mp h with h | ho
  · exact h
  · rcases hr with ⟨p', hp', e'⟩ | hno
    · refine hcl2.find (fun p hp => ?_) _ p' (Nat.lt_succ_self _) hp' (by rw [e']; exact ho)
      exact W.mark (S.hms p hp).1 (S.hms p hp).2 g
    · exact absurd ho hno
theorem OccS.push (W : WF L x) (g : Mod L x G) (S : OccS L G j t n (us ++ [u]) ms) {e : Ce} {cs : List Ce} {b : Nat} (hVe : G.of L.fn u = G.of L.fn e) (hce : L.cell e) (hct : e.tag = 2 ∨ e.tag = 3) (hem : e ∉ ms)
    (hcs : ∀ d ∈ cs, L.cell d ∧ d.num < 1000000) (hlen : cs.length ≤ 2) (hm : (G.of L.fn e).mark = "s") (ha : (G.of L.fn e).args = cs.map (G.of L.fn)) :
    ms.length < L.K.length ∧ ∃ n', n' < n ∧ OccS L G j t n' (us ++ cs.reverse) (ms ++ [e]) := by
  have key : ∀ p, L.cell p → (p.tag = 2 ∨ p.tag = 3) → ∃ b, b ∈ L.K ∧ p.val = (b : Int) := fun p h1 h2 => by
    obtain ⟨b, hbK, hbv, _⟩ := W.key h1 h2
    exact ⟨b, hbK, hbv⟩
  have hms2 : ∀ p ∈ ms ++ [e], L.cell p ∧ (p.tag = 2 ∨ p.tag = 3) := fun p hp => by
    rcases List.mem_append.mp hp with hp | hp
    · exact S.hms p hp
    · rw [List.mem_singleton.mp hp]; exact ⟨hce, hct⟩
  have hnd2 : ((ms ++ [e]).map fun p => p.val.toNat).Nodup := by
    rw [List.map_append]
    refine List.nodup_append.mpr ⟨S.hnd, List.nodup_cons.mpr ⟨fun z => (nomatch z), List.nodup_nil⟩, fun a ha b' hb' hpe => ?_⟩
    obtain ⟨p, hp, rfl⟩ := List.mem_map.mp ha
    have hpe : p.val.toNat = e.val.toNat := hpe.trans (List.mem_singleton.mp hb')
    obtain ⟨b1, _, e1⟩ := key p (S.hms p hp).1 (S.hms p hp).2
    obtain ⟨b2, _, e2⟩ := key e hce hct
    rw [e1, e2, Int.toNat_natCast, Int.toNat_natCast] at hpe
    exact hem (val_inj (S.hms p hp).1 hce (S.hms p hp).2 hct (by rw [e1, e2, hpe]) ▸ hp)
  have hkl : (ms ++ [e]).length ≤ L.K.length := by
    have := nodup_le L.K _ hnd2 fun a ha => by
      obtain ⟨p, hp, rfl⟩ := List.mem_map.mp ha
      obtain ⟨b1, hb1, e1⟩ := key p (hms2 p hp).1 (hms2 p hp).2
      rw [e1, Int.toNat_natCast]; exact hb1
    rwa [List.length_map] at this
  rw [List.length_append, List.length_singleton] at hkl
  obtain ⟨e0, he0, hn⟩ := S.hn
  have hb := S.hb
  rw [List.length_append, List.length_singleton] at hn
  cases e0 with
  | zero => exact absurd hkl (by rw [← he0, Nat.zero_add]; exact Nat.not_succ_le_self _)
  | succ e0 =>
  have hlt1 := dec_ar hlen hn
  refine ⟨hkl, 3 * e0 + (us.length + cs.length), hlt1, ⟨e0, by rw [List.length_append, ← he0]; exact (Nat.add_right_comm e0 1 _).symm, by rw [List.length_append, List.length_reverse]⟩, Nat.le_trans (Nat.le_of_lt hlt1) hb, fun v hv => ?_, hnd2, hms2, fun p hp t ht hto => ?_, ?_⟩
  · rcases List.mem_append.mp hv with hv | hv
    · exact S.hws v (List.mem_append_left _ hv)
    · exact hcs v (List.mem_reverse.mp hv)
  · rcases List.mem_append.mp hp with hp | hp
    · rcases S.hcl p hp t ht hto with h | ⟨p', hp', e'⟩
      · rcases ex_snoc.mp h with ⟨v, hv, ev⟩ | ev
        · exact .inl ⟨v, List.mem_append_left _ hv, ev⟩
        · exact .inr (ex_snoc.mpr (.inr (hVe ▸ ev)))
      · exact .inr ⟨p', List.mem_append_left _ hp', e'⟩
    · rw [List.mem_singleton.mp hp, ha] at ht
      obtain ⟨v, hv, ev⟩ := List.mem_map.mp ht
      exact .inl ⟨v, List.mem_append_right _ (List.mem_reverse.mpr hv), ev⟩
  · refine S.hocc.trans (ex_snoc.trans ?_)
    rw [hVe, occ_args hm, ha]
    constructor
    · rintro (⟨v, hv, ho⟩ | ⟨t, ht, ho⟩)
      · exact ⟨v, List.mem_append_left _ hv, ho⟩
      · obtain ⟨v, hv, rfl⟩ := List.mem_map.mp ht
        exact ⟨v, List.mem_append_right _ (List.mem_reverse.mpr hv), ho⟩
    · rintro ⟨v, hv, ho⟩
      rcases List.mem_append.mp hv with hv | hv
      · exact .inl ⟨v, hv, ho⟩
      · exact .inr ⟨_, List.mem_map_of_mem (List.mem_reverse.mp hv), ho⟩
end
inductive OccI (A : SA) (L : Ly) (G : Val) (c : Ce) (t : T) (w mt : Addr) (H2 : AH) (j n : Nat) (f : Frm) (H' : AH) : Prop
  | mk {ws ms : List Ce} (f1 : f "store" = some (.r A.s)) (f2 : f "variable" = some (.d c.enc)) (f3 : f "work" = some (.r w)) (f4 : f "met" = some (.r mt)) (g : Gr [w, mt] H2 H')
    (h1 : H' w = some (.lst (encC ws))) (h2 : H' mt = some (.set (ms.map Ce.val))) (S : OccS L G j t n ws ms) : OccI A L G c t w mt H2 j n f H'
theorem occurs_in_spec (O : Orc C) (k : Nat) {c d : Ce} {Q : Post} (h : StoreH A x H) (W : WF L x) (g : Gen L nm x G) (hc : x.at c = some c) (hd : L.cell d) (htd : 2 ≤ d.tag)
    (q : ∀ H' (z : Bool), Gr [] H H' → (z = true ↔ (G.of L.fn d).occ (c.nam nm)) → Q (.d (.bool z)) H') : C (k + 4) (.fn "occurs_in") [.r A.s, .d c.enc, .d d.enc] H Q := by
  have htc : c.tag = 0 ∨ c.tag = 1 := by cases c <;> first | exact .inl rfl | exact .inr rfl | cases hc
  have q0 : ¬ (G.of L.fn d).occ (c.nam nm) → Q (.d (.bool false)) H := fun hno => q H false (Gr.refl _ _) ⟨fun z => (nomatch z), fun z => absurd z hno⟩
  refine intro3 O def_occurs_in (by decide) (by decide) (by decide) fun f f1 f2 f3 => ?_
  tb_start
  refine deref_spec O (k + 2) h (.val htd) ?_
  tb_start
  refine cEqC' (fun z => by subst z; omega) (fun _ => ?_)
  tb_start
  refine ifD (fun ht => ?_) (fun ht => ?_)
  · tb_start
    refine q0 fun ho => ?_
    obtain ⟨n, h1, h2⟩ := g.locell hd (by omega) ho
    rw [← g.inj _ _ h1 hc h2] at ht; cases ht
  have ht0 : c.tag = 0 := htc.resolve_right ht
  tb_start
  refine is_compound_spec O (k + 2) fun z hz => ?_
  tb_start
  refine ifN z (fun e => ?_) (fun e => ?_)
  · tb_start
    refine q0 (const_no ?_)
    have : ¬ (d.tag = 2 ∨ d.tag = 3) := fun hh => by rw [hz.mpr hh] at e; cases e
    omega
  have hcd := hz.mp e
  tb_start
  intro mt hmt
  tb_start
  intro w hw
  have hmw : mt ≠ w := ne_new (set_at H mt (.set [])) hw
  have hHw : H w = none := (set_ne H (.set []) (Ne.symm hmw)).symm.trans hw
  have g0 : Gr [] H ((H.set mt (.set [])).set w (.lst [d.enc])) := (Gr.new hmt).tr (Gr.new hw)
  have hm0 : ((H.set mt (.set [])).set w (.lst [d.enc])) mt = some (.set []) := by rw [set_ne _ _ hmw, set_at]
  have hw0 := set_at (H.set mt (.set [])) w (.lst [d.enc])
  have hwA : w ∉ A.all := fun hm => h.ne hHw hm
  have hmA : mt ∉ A.all := h.ne hmt
  show Wxs _ _ _ ((H.set mt (.set [])).set w (.lst [d.enc])) _
  generalize (H.set mt (.set [])).set w (.lst [d.enc]) = H2 at g0 hm0 hw0 ⊢
  have gH : ∀ {H3}, Gr [w, mt] H2 H3 → Gr [] H H3 := fun gg => g0.trans gg (List.forall_mem_cons.mpr ⟨.inr hHw, List.forall_mem_cons.mpr ⟨.inr hmt, fun _ z => (nomatch z)⟩⟩)
  refine sWhl (OccI A L G c (G.of L.fn d) w mt H2 (c.nam nm)) (3 * L.K.length + 1) (.mk (ws := [d]) (ms := []) (by k_caught0) (by k_caught0) (by k_caught0) (by k_caught0) (Gr.refl _ _) hw0 hm0 ⟨⟨L.K.length, rfl, rfl⟩, Nat.le_trans (Nat.add_le_add_right (Nat.mul_le_mul_left 3 W.kl) 1) (by decide), fun u hu => ?_, List.nodup_nil, fun p hp => (nomatch hp), fun p hp => (nomatch hp), ?_⟩) fun n f H' I => ?_
  · rw [List.mem_singleton.mp hu]
    rcases tag_cmp hcd with ⟨a, rfl⟩ | ⟨a, rfl⟩ <;> exact ⟨hd, of_decide_eq_true rfl⟩
  · exact ⟨fun h => ⟨d, .head _, h⟩, fun ⟨u, hu, h⟩ => by rw [List.mem_singleton.mp hu] at h; exact h⟩
  obtain ⟨f1, f2, f3, f4, gg, h1, h2, S⟩ := I
  rename_i ws ms
  tb_start
  rcases List.eq_nil_or_concat ws with rfl | ⟨us, u, rfl⟩
  · refine ifDF (Int.lt_irrefl _) ?_
    tb_start
    exact q _ false (gH gg) ⟨fun z => (nomatch z), fun ho => by obtain ⟨_, hm, _⟩ := S.hocc.mp ho; cases hm⟩
  rw [List.concat_eq_append] at h1 S ⊢
  rw [ce_snoc] at h1 ⊢
  refine ifDT (by rw [List.length_append, List.length_singleton]; exact Int.ofNat_lt.mpr (Nat.succ_pos _)) ?_
  have hu := S.hws u (List.mem_append_right _ (.head _))
  obtain ⟨_, e, hde, hce, hnum, hend, hval⟩ := W.der _ (Nat.lt_succ_self _) hu.1
  have hVe := hval G g.mod
  have hS' := h.gr0 (gH gg)
  tb_start
  refine ePopC (ofLoc (by k_caught0)) h1 ?_
  have hS3 := hS'.other (o := .lst (encC us)) hwA
  have hw3 := set_at H' w (.lst (encC us))
  have hm3 : (H'.set w (.lst (encC us))) mt = some (.set (ms.map Ce.val)) := by rw [set_ne _ _ hmw]; exact h2
  have g3 : Gr [w, mt] H2 (H'.set w (.lst (encC us))) := gg.tr (gr_mem (.head _))
  generalize H'.set w (.lst (encC us)) = H3 at hS3 hw3 hm3 g3 ⊢
  tb_start
  refine deref_spec O (k + 2) hS3 hde ?_
  tb_start
  refine cEqC' (fun z => ?_) (fun hec => ?_)
  · tb_start
    refine q _ true (gH g3) ⟨fun _ => S.hocc.mpr ⟨u, List.mem_append_right _ (.head _), ?_⟩, fun _ => rfl⟩
    rw [hVe, z, g.un c hc]; rfl
  tb_start
  refine is_compound_spec O (k + 2) fun z2 hz2 => ?_
  tb_start
  refine ifB z2 (fun ez => ?_) (fun ez => ?_)
  · have hct := hz2.mp ez
    obtain ⟨cs, fu, hblk, hfn, hstr, hcs, b, hbK, hbv, hbn, hb⟩ := W.blk hce hct
    have hbG := hb G g.mod
    tb_start
    refine ninSet hm3 (ifN _ (fun z => ?_) (fun z => ?_))
    · have hem : e ∉ ms := fun hm => by rw [List.contains_iff_mem.mpr (List.mem_map_of_mem hm)] at z; cases z
      obtain ⟨hkl, n', hn', S'⟩ := S.push (b := b) W g.mod hVe hce hct hem hcs hblk.len hbG.1 hbG.2.2
      have hkl2 := W.kl
      tb_start
      refine eAdd (ofLoc (by k_caught0)) hm3 ?_
      tb_start
      refine addOf hm3 (by rw [List.length_map]; omega) ?_
      rw [z]
      have hS4 := hS3.other (o := .set (ms.map Ce.val ++ [e.val])) hmA
      have hw4 : (H3.set mt (.set (ms.map Ce.val ++ [e.val]))) w = some (.lst (encC us)) := by rw [set_ne _ _ (Ne.symm hmw)]; exact hw3
      have hm4 : (H3.set mt (.set (ms.map Ce.val ++ [e.val]))) mt = some (.set ((ms ++ [e]).map Ce.val)) := by rw [set_at, List.map_append]; rfl
      have g4 : Gr [w, mt] H2 (H3.set mt (.set (ms.map Ce.val ++ [e.val]))) := g3.tr (gr_mem (.tail _ (.head _)))
      show expQ _ _ (H3.set mt (.set (ms.map Ce.val ++ [e.val])))
      generalize H3.set mt (.set (ms.map Ce.val ++ [e.val])) = H4 at hS4 hw4 hm4 g4 ⊢
      tb_start
      obtain ⟨e0, _, hl⟩ := S.hn
      have hb := S.hb
      rw [List.length_append] at hl
      refine push_arguments_spec O k hS4 hblk hw4 hwA (by omega) fun H5 g5 hS5 hw5 => ?_
      tb_start
      exact ⟨n', hn', by k_caught0, by k_caught0, by k_caught0, by k_caught0, g4.trans g5 (fun y hy => .inl (by rw [List.mem_singleton.mp hy]; exact .head _)), hw5, g5 mt _ (fun hm => hmw (List.mem_singleton.mp hm)) hm4, S'⟩
    · obtain ⟨p, hp, hpe⟩ := List.mem_map.mp (List.contains_iff_mem.mp z)
      rw [val_inj (S.hms p hp).1 hce (S.hms p hp).2 hct hpe] at hp
      obtain ⟨n', hn', S'⟩ := S.skip W g.mod (.inl ⟨e, hp, hVe.symm⟩)
      tb_start
      exact ⟨n', hn', by k_caught0, by k_caught0, by k_caught0, by k_caught0, g3, hw3, hm3, S'⟩
  · have hno : ¬ (G.of L.fn u).occ (c.nam nm) := fun ho => by
      rw [hVe] at ho
      rcases hend with ht | hun
      · refine const_no (G := G) (F := L.fn) (e := e) (j := c.nam nm) ?_ ho
        have : ¬ (e.tag = 2 ∨ e.tag = 3) := fun hh => by rw [hz2.mpr hh] at ez; cases ez
        omega
      · rw [g.un e hun] at ho
        exact hec (g.inj _ _ hun hc (show e.nam nm = c.nam nm from ho))
    obtain ⟨n', hn', S'⟩ := S.skip W g.mod (.inr hno)
    tb_start
    exact ⟨n', hn', by k_caught0, by k_caught0, by k_caught0, by k_caught0, g3, hw3, hm3, S'⟩
end
end
section
open PySem
structure Tr (x0 x : Sx) : Prop where
  hb : x.hb = x0.hb
  bb : x.bb = x0.bb
  sl : x.stack.length = x0.stack.length
  hl : x0.heap.length ≤ x.heap.length
  nd : x.trail.Nodup
  ent : ∀ t ∈ x.trail, (∃ n : Nat, t = (n : Int) ∧ x0.heap[n]? = some (.ref n) ∧ x.heap[n]? ≠ some (.ref n)) ∨ (∃ n : Nat, t = -1 - (n : Int) ∧ x0.stack[n]? = some (.srf n) ∧ x.stack[n]? ≠ some (.srf n))
  hk : ∀ n : Nat, n < x0.heap.length → x.heap[n]? ≠ x0.heap[n]? → x0.heap[n]? = some (.ref n) ∧ ((n : Int) < x.hb → (n : Int) ∈ x.trail)
  sk : ∀ n : Nat, x.stack[n]? ≠ x0.stack[n]? → x0.stack[n]? = some (.srf n) ∧ ((n : Int) < x.bb → -1 - (n : Int) ∈ x.trail)
section
variable {x0 x : Sx}
theorem Tr.start (h : x.trail = []) : Tr x x :=
  ⟨rfl, rfl, rfl, Nat.le_refl _, by rw [h]; exact List.nodup_nil, by rw [h]; exact fun t ht => (nomatch ht), fun n _ e => absurd rfl e, fun n e => absurd rfl e⟩
theorem snoc_nd {α : Type} {l : List α} {a : α} (h : l.Nodup) (ha : a ∉ l) : (l ++ [a]).Nodup := by
  rw [List.nodup_append]
  exact ⟨h, by simp, fun b hb c hc => by rw [List.mem_singleton.mp hc]; exact fun e => ha (e ▸ hb)⟩
theorem Tr.bind (t : Tr x0 x) {c v : Ce} (hc : x.at c = some c) (hne : v ≠ c) (hlt : ∀ n, c = .ref n → n < x0.heap.length) : Tr x0 (x.bind c v) := by
  cases c with
  | ref n =>
    have h := (Sx.at_ref.mp hc).1
    have hn := hlt n rfl
    have h0 : x0.heap[n]? = some (.ref n) := by
      apply Classical.byContradiction
      intro hh
      exact hh (t.hk n hn (fun e => hh (by rw [← e]; exact h))).1
    have hnt : (n : Int) ∉ x.trail := fun hm => by
      rcases t.ent _ hm with ⟨m, e, _, h2⟩ | ⟨m, e, _⟩
      · have : m = n := by omega
        subst this; exact h2 h
      · omega
    have hxl := (List.getElem?_eq_some_iff.mp h).1
    have hset : ∀ m, (x.heap.set n v)[m]? = if m = n then some v else x.heap[m]? := fun m => by
      rw [List.getElem?_set]
      by_cases e : n = m
      · subst e; rw [if_pos rfl, if_pos rfl, if_pos hxl]
      · rw [if_neg e, if_neg (Ne.symm e)]
    have hsub : ∀ m, m ∈ x.trail → m ∈ (x.bind (.ref n) v).trail := fun m hm => by
      simp only [Sx.bind]; split <;> simp [hm]
    refine ⟨t.hb, t.bb, t.sl, by simp only [Sx.bind, List.length_set]; exact t.hl, ?_, fun a ha => ?_, fun m hm he => ?_, fun m he => ?_⟩
    · simp only [Sx.bind]
      split
      · exact snoc_nd t.nd hnt
      · exact t.nd
    · have ho : a ∈ x.trail ∨ a = (n : Int) := by
        simp only [Sx.bind] at ha
        split at ha
        · rcases List.mem_append.mp ha with ha | ha
          · exact .inl ha
          · exact .inr (List.mem_singleton.mp ha)
        · exact .inl ha
      simp only [Sx.bind]
      rcases ho with ho | rfl
      · rcases t.ent a ho with ⟨m, e, h1, h2⟩ | hr
        · refine .inl ⟨m, e, h1, ?_⟩
          rw [hset]
          split
          · rename_i e2; subst e2; intro z; cases z; exact hne rfl
          · exact h2
        · exact .inr hr
      · refine .inl ⟨n, rfl, h0, ?_⟩
        rw [hset, if_pos rfl]
        intro z; cases z; exact hne rfl
    · have he : (x.heap.set n v)[m]? ≠ x0.heap[m]? := he
      rw [hset] at he
      by_cases e : m = n
      · subst e
        refine ⟨h0, fun hb => ?_⟩
        have hb : (m : Int) < x.hb := hb
        simp only [Sx.bind, if_pos hb]; simp
      · rw [if_neg e] at he
        obtain ⟨a, b⟩ := t.hk m hm he
        exact ⟨a, fun hb => hsub _ (b hb)⟩
    · obtain ⟨a, b⟩ := t.sk m he
      exact ⟨a, fun hb => hsub _ (b hb)⟩
  | srf n =>
    have h := Sx.at_srf.mp hc
    have h0 : x0.stack[n]? = some (.srf n) := by
      apply Classical.byContradiction
      intro hh
      exact hh (t.sk n (fun e => hh (by rw [← e]; exact h))).1
    have hnt : -1 - (n : Int) ∉ x.trail := fun hm => by
      rcases t.ent _ hm with ⟨m, e, _⟩ | ⟨m, e, _, h2⟩
      · omega
      · have : m = n := by omega
        subst this; exact h2 h
    have hxl := (List.getElem?_eq_some_iff.mp h).1
    have hset : ∀ m, (x.stack.set n v)[m]? = if m = n then some v else x.stack[m]? := fun m => by
      rw [List.getElem?_set]
      by_cases e : n = m
      · subst e; rw [if_pos rfl, if_pos rfl, if_pos hxl]
      · rw [if_neg e, if_neg (Ne.symm e)]
    have hsub : ∀ m, m ∈ x.trail → m ∈ (x.bind (.srf n) v).trail := fun m hm => by
      simp only [Sx.bind]; split <;> simp [hm]
    refine ⟨t.hb, t.bb, by simp only [Sx.bind, List.length_set]; exact t.sl, t.hl, ?_, fun a ha => ?_, fun m hm he => ?_, fun m he => ?_⟩
    · simp only [Sx.bind]
      split
      · exact snoc_nd t.nd hnt
      · exact t.nd
    · have ho : a ∈ x.trail ∨ a = -1 - (n : Int) := by
        simp only [Sx.bind] at ha
        split at ha
        · rcases List.mem_append.mp ha with ha | ha
          · exact .inl ha
          · exact .inr (List.mem_singleton.mp ha)
        · exact .inl ha
      simp only [Sx.bind]
      rcases ho with ho | rfl
      · rcases t.ent a ho with hl | ⟨m, e, h1, h2⟩
        · exact .inl hl
        · refine .inr ⟨m, e, h1, ?_⟩
          rw [hset]
          split
          · rename_i e2; subst e2; intro z; cases z; exact hne rfl
          · exact h2
      · refine .inr ⟨n, rfl, h0, ?_⟩
        rw [hset, if_pos rfl]
        intro z; cases z; exact hne rfl
    · obtain ⟨a, b⟩ := t.hk m hm he
      exact ⟨a, fun hb => hsub _ (b hb)⟩
    · have he : (x.stack.set n v)[m]? ≠ x0.stack[m]? := he
      rw [hset] at he
      by_cases e : m = n
      · subst e
        refine ⟨h0, fun hb => ?_⟩
        have hb : (m : Int) < x.bb := hb
        simp only [Sx.bind, if_pos hb]; simp
      · rw [if_neg e] at he
        obtain ⟨a, b⟩ := t.sk m he
        exact ⟨a, fun hb => hsub _ (b hb)⟩
  | _ => cases hc
theorem Tr.grow (t : Tr x0 x) (c : Ce) : Tr x0 { x with heap := x.heap ++ [c] } := by
  have hg : ∀ n : Nat, n < x0.heap.length → (x.heap ++ [c])[n]? = x.heap[n]? := fun n hn => List.getElem?_append_left (Nat.lt_of_lt_of_le hn t.hl)
  refine ⟨t.hb, t.bb, t.sl, by simp only [List.length_append]; have := t.hl; omega, t.nd, fun a ha => ?_, fun n hn he => ?_, t.sk⟩
  · rcases t.ent a ha with ⟨m, e, h1, h2⟩ | hr
    · refine .inl ⟨m, e, h1, ?_⟩
      have hm := (List.getElem?_eq_some_iff.mp h1).1
      show (x.heap ++ [c])[m]? ≠ _
      rw [hg m hm]; exact h2
    · exact .inr hr
  · have he : (x.heap ++ [c])[n]? ≠ x0.heap[n]? := he
    rw [hg n hn] at he
    exact t.hk n hn he
theorem Tr.short (t : Tr x0 x) (h5 : ∀ n : Nat, x0.heap[n]? = some (.ref n) → n < 5) (h2 : x0.stack.length = 2) : x.trail.length ≤ 7 := by
  have hb : ∀ a ∈ x.trail, 0 ≤ a + 2 ∧ a + 2 < 7 := fun a ha => by
    rcases t.ent a ha with ⟨n, e, h, _⟩ | ⟨n, e, h, _⟩
    · subst e
      exact ⟨Int.add_nonneg (Int.natCast_nonneg n) (by decide), Int.add_lt_add_right (Int.ofNat_lt.mpr (h5 n h)) 2⟩
    · subst e
      have h := (List.getElem?_eq_some_iff.mp h).1
      rw [h2] at h
      rcases Nat.le_one_iff_eq_zero_or_eq_one.mp (Nat.le_of_lt_succ h) with e | e
      · subst e; decide
      · subst e; decide
  have := pigeon 7 (x.trail.map fun a => (a + 2).toNat) (by
    rw [List.Nodup, List.pairwise_map]
    exact t.nd.imp_of_mem fun {a b} ha hb' hab e => hab ((Int.add_left_inj 2).mp ((Int.toNat_of_nonneg (hb a ha).1).symm.trans ((congrArg Nat.cast e).trans (Int.toNat_of_nonneg (hb b hb').1))))) fun y hy => by
      obtain ⟨a, ha, rfl⟩ := List.mem_map.mp hy
      exact (Int.toNat_lt (hb a ha).1).mpr (hb a ha).2
  rwa [List.length_map] at this
end
theorem args_eq {s t : T} (hs : s.mark = "s") (ht : t.mark = "s") (hf : s.fnum = t.fnum) (h : ∀ p ∈ s.args.zip t.args, p.1 = p.2) : s = t := by
  have := (dec_iff (θ := T.v) hs ht hf).mpr fun p hp => by rw [T.sub_v, T.sub_v]; exact h p hp
  rwa [T.sub_v, T.sub_v] at this
noncomputable def UCl (V : Ce → T) (ms W : List (Ce × Ce)) : Prop := ∀ p ∈ ms, ∀ st ∈ (V p.1).args.zip (V p.2).args, st.1 = st.2 ∨ (∃ w ∈ W, V w.1 = st.1 ∧ V w.2 = st.2) ∨ ∃ p' ∈ ms, V p'.1 = st.1 ∧ V p'.2 = st.2
theorem UCl.eq {V : Ce → T} {ms W : List (Ce × Ce)} (h : UCl V ms W) (hW : ∀ w ∈ W, V w.1 = V w.2) (hm : ∀ p ∈ ms, (V p.1).mark = "s" ∧ (V p.2).mark = "s" ∧ (V p.1).fnum = (V p.2).fnum) : ∀ (n : Nat) (p : Ce × Ce), (V p.1).sz < n → p ∈ ms → V p.1 = V p.2 := by
  intro n
  induction n with
  | zero => intro p h; cases h
  | succ n ih =>
    intro p hn hp
    obtain ⟨m1, m2, m3⟩ := hm p hp
    refine args_eq m1 m2 m3 fun st hst => ?_
    rcases h p hp st hst with e | ⟨w, hw, e1, e2⟩ | ⟨p', hp', e1, e2⟩
    · exact e
    · rw [← e1, ← e2]; exact hW w hw
    · rw [← e1, ← e2]
      refine ih p' ?_ hp'
      have := arg_sz (List.of_mem_zip hst).1
      rw [e1]; omega
noncomputable def pnum (L : Ly) (p : Ce × Ce) : Int := p.1.val * ((L.n + 1 : Nat) : Int) + p.2.val
noncomputable def pkey (p : Ce × Ce) : Nat × Nat := (p.1.val.toNat, p.2.val.toNat)
theorem prod_len {α : Type} (M : List α) : ∀ K : List α, (K.flatMap fun a => M.map fun b => (a, b)).length = K.length * M.length
  | [] => by simp
  | a :: K => by
    rw [List.flatMap_cons, List.length_append, prod_len M K, List.length_map, List.length_cons, Nat.succ_mul]; omega
structure US (L : Ly) (nm : Nat → Nat) (x0 x : Sx) (c1 c2 : Ce) (x' : Sx) (G : Val) (W ms : List (Ce × Ce)) (n : Nat) : Prop where
  wf : WF L x'
  gen : Gen L nm x' G
  tr : Tr x0 x'
  eqv : ∀ m, (Mod L x m ∧ m.of L.fn c1 = m.of L.fn c2) ↔ (Mod L x' m ∧ ∀ p ∈ W, m.of L.fn p.1 = m.of L.fn p.2)
  cells : ∀ p ∈ W, L.cell p.1 ∧ L.cell p.2
  mcell : ∀ p ∈ ms, (L.cell p.1 ∧ (p.1.tag = 2 ∨ p.1.tag = 3)) ∧ (L.cell p.2 ∧ (p.2.tag = 2 ∨ p.2.tag = 3))
  mnd : (ms.map pkey).Nodup
  mfn : ∀ m, Mod L x' m → ∀ p ∈ ms, (m.of L.fn p.1).mark = "s" ∧ (m.of L.fn p.2).mark = "s" ∧ (m.of L.fn p.1).fnum = (m.of L.fn p.2).fnum
  cl : ∀ m, Mod L x' m → UCl (m.of L.fn) ms W
  hn : ∃ c, c + ms.length = 784 ∧ n = 3 * c + W.length
  n3 : n ≤ 3000
section
variable {L : Ly} {nm : Nat → Nat} {x0 x x' : Sx} {c1 c2 : Ce} {G : Val} {W ms : List (Ce × Ce)} {n : Nat} {u : Ce × Ce}
theorem US.mlen (U : US L nm x0 x c1 c2 x' G W ms n) : ms.length ≤ 784 := by
  have h := nodup_le (L.K.flatMap fun a => L.K.map fun b => (a, b)) (ms.map pkey) U.mnd fun y hy => by
    obtain ⟨p, hp, rfl⟩ := List.mem_map.mp hy
    obtain ⟨⟨a1, a2⟩, a3, a4⟩ := U.mcell p hp
    obtain ⟨b, hb, hv, _⟩ := U.wf.key a1 a2
    obtain ⟨b', hb', hv', _⟩ := U.wf.key a3 a4
    rw [List.mem_flatMap]
    refine ⟨b, hb, List.mem_map.mpr ⟨b', hb', ?_⟩⟩
    simp only [pkey, hv, hv', Int.toNat_natCast]
  rw [prod_len, List.length_map] at h
  have hk := U.wf.kl
  have : L.K.length * L.K.length ≤ 28 * 28 := Nat.mul_le_mul hk hk
  omega
theorem US.start (hw : WF L x) (g : Gen L nm x G) (t : Tr x0 x) (h1 : L.cell c1) (h2 : L.cell c2) : US L nm x0 x c1 c2 x G [(c1, c2)] [] 2353 :=
  ⟨hw, g, t, fun m => by simp, fun p hp => by rw [List.mem_singleton.mp hp]; exact ⟨h1, h2⟩, fun p hp => (nomatch hp), List.nodup_nil, fun _ _ p hp => (nomatch hp), fun _ _ p hp => (nomatch hp), ⟨784, rfl, rfl⟩, by decide⟩
theorem mem_snoc {α : Type} {W : List α} {u p : α} : p ∈ W ++ [u] ↔ p ∈ W ∨ p = u := by simp
theorem US.skip (U : US L nm x0 x c1 c2 x' G (W ++ [u]) ms n) (h : ∀ m, Mod L x' m → m.of L.fn u.1 = m.of L.fn u.2 ∨ ∃ p ∈ ms, m.of L.fn p.1 = m.of L.fn u.1 ∧ m.of L.fn p.2 = m.of L.fn u.2) : ∃ n', n' < n ∧ US L nm x0 x c1 c2 x' G W ms n' := by
  obtain ⟨e, he, hn⟩ := U.hn
  have h3 := U.n3
  rw [List.length_append, List.length_singleton] at hn
  have hlt0 : 3 * e + W.length < n := by rw [hn]; exact Nat.lt_succ_self _
  have hcl : ∀ m, Mod L x' m → UCl (m.of L.fn) ms W := fun m hm p hp st hst => by
    rcases U.cl m hm p hp st hst with e | ⟨w, hw, e1, e2⟩ | hr
    · exact .inl e
    · rcases mem_snoc.mp hw with hw | rfl
      · exact .inr (.inl ⟨w, hw, e1, e2⟩)
      · rcases h m hm with e | ⟨p', hp', e3, e4⟩
        · exact .inl (by rw [← e1, ← e2, e])
        · exact .inr (.inr ⟨p', hp', by rw [e3, e1], by rw [e4, e2]⟩)
    · exact .inr (.inr hr)
  refine ⟨3 * e + W.length, hlt0, U.wf, U.gen, U.tr, fun m => (U.eqv m).trans ⟨fun ⟨a, b⟩ => ⟨a, fun p hp => b p (mem_snoc.mpr (.inl hp))⟩, fun ⟨a, b⟩ => ⟨a, fun p hp => ?_⟩⟩, fun p hp => U.cells p (mem_snoc.mpr (.inl hp)), U.mcell, U.mnd, U.mfn, hcl, ⟨e, he, rfl⟩, Nat.le_trans (Nat.le_of_lt hlt0) h3⟩
  rcases mem_snoc.mp hp with hp | rfl
  · exact b p hp
  · rcases h m a with e | ⟨p', hp', e3, e4⟩
    · exact e
    · rw [← e3, ← e4]
      exact (hcl m a).eq b (U.mfn m a) _ p' (Nat.lt_succ_self _) hp'
theorem US.bind (U : US L nm x0 x c1 c2 x' G (W ++ [u]) ms n) {c v : Ce} (hc : x'.at c = some c) (hv : L.cell v) (hnum : v.num ≤ c.num) (ho : ¬ (G.of L.fn v).occ (c.nam nm)) (ht : c.tag = 0 → v.tag ≠ 1) (hlt : ∀ n, c = .ref n → n < x0.heap.length)
    (h : ∀ m, Mod L x' m → (m.of L.fn u.1 = m.of L.fn u.2 ↔ m.of L.fn c = m.of L.fn v)) : ∃ n' G', n' < n ∧ US L nm x0 x c1 c2 (x'.bind c v) G' W ms n' := by
  obtain ⟨e, he, hn⟩ := U.hn
  have h3 := U.n3
  rw [List.length_append, List.length_singleton] at hn
  have hlt0 : 3 * e + W.length < n := by rw [hn]; exact Nat.lt_succ_self _
  have hf := L.cell_noFn hv
  have hne : v ≠ c := fun e => by rw [e, U.gen.un c hc] at ho; exact ho rfl
  have hb := fun m => Mod.bind_iff (L := L) (x := x') (c := c) (v := v) hc hf m
  refine ⟨3 * e + W.length, _, hlt0, U.wf.bind hc hv hnum, U.gen.bind U.wf hc hv hnum ho ht, U.tr.bind hc hne hlt, fun m => ?_, fun p hp => U.cells p (mem_snoc.mpr (.inl hp)), U.mcell, U.mnd, fun m hm => U.mfn m ((hb m).mp hm).1, fun m hm p hp st hst => ?_, ⟨e, he, rfl⟩, Nat.le_trans (Nat.le_of_lt hlt0) h3⟩
  · rw [U.eqv m, hb m]
    constructor
    · rintro ⟨a, b⟩
      exact ⟨⟨a, (h m a).mp (b u (mem_snoc.mpr (.inr rfl)))⟩, fun p hp => b p (mem_snoc.mpr (.inl hp))⟩
    · rintro ⟨⟨a, e⟩, b⟩
      refine ⟨a, fun p hp => ?_⟩
      rcases mem_snoc.mp hp with hp | rfl
      · exact b p hp
      · exact (h m a).mpr e
  · obtain ⟨hm1, hm2⟩ := (hb m).mp hm
    rcases U.cl m hm1 p hp st hst with e | ⟨w, hw, e1, e2⟩ | hr
    · exact .inl e
    · rcases mem_snoc.mp hw with hw | rfl
      · exact .inr (.inl ⟨w, hw, e1, e2⟩)
      · exact .inl (by rw [← e1, ← e2]; exact (h m hm1).mpr hm2)
    · exact .inr (.inr hr)
theorem US.dec (U : US L nm x0 x c1 c2 x' G (W ++ [u]) ms n) {l r : Ce} {cs ds : List Ce} (hl : L.cell l ∧ (l.tag = 2 ∨ l.tag = 3)) (hr : L.cell r ∧ (r.tag = 2 ∨ r.tag = 3)) (hnew : pkey (l, r) ∉ ms.map pkey)
    (hcs : ∀ d ∈ cs, L.cell d) (hds : ∀ d ∈ ds, L.cell d) (hlen : cs.length ≤ 2)
    (h : ∀ m, Mod L x' m → m.of L.fn u.1 = m.of L.fn l ∧ m.of L.fn u.2 = m.of L.fn r ∧ (m.of L.fn l).mark = "s" ∧ (m.of L.fn r).mark = "s" ∧ (m.of L.fn l).fnum = (m.of L.fn r).fnum ∧ (m.of L.fn l).args = cs.map (m.of L.fn) ∧ (m.of L.fn r).args = ds.map (m.of L.fn)) :
    ∃ n', n' < n ∧ US L nm x0 x c1 c2 x' G (W ++ (cs.zip ds).reverse) (ms ++ [(l, r)]) n' := by
  obtain ⟨e, he, hn⟩ := U.hn
  have h3 := U.n3
  rw [List.length_append, List.length_singleton] at hn
  have hlt0 : 3 * e + W.length < n := by rw [hn]; exact Nat.lt_succ_self _
  have mcell : ∀ p ∈ ms ++ [(l, r)], (L.cell p.1 ∧ (p.1.tag = 2 ∨ p.1.tag = 3)) ∧ (L.cell p.2 ∧ (p.2.tag = 2 ∨ p.2.tag = 3)) := fun p hp => by
    rcases mem_snoc.mp hp with hp | rfl
    · exact U.mcell p hp
    · exact ⟨hl, hr⟩
  have mnd : ((ms ++ [(l, r)]).map pkey).Nodup := by
    rw [List.map_append]; exact snoc_nd U.mnd hnew
  have hml : ms.length + 1 ≤ 784 := by
    have h := nodup_le (L.K.flatMap fun a => L.K.map fun b => (a, b)) ((ms ++ [(l, r)]).map pkey) mnd fun y hy => by
      obtain ⟨p, hp, rfl⟩ := List.mem_map.mp hy
      obtain ⟨⟨a1, a2⟩, a3, a4⟩ := mcell p hp
      obtain ⟨b, hb, hv, _⟩ := U.wf.key a1 a2
      obtain ⟨b', hb', hv', _⟩ := U.wf.key a3 a4
      rw [List.mem_flatMap]
      refine ⟨b, hb, List.mem_map.mpr ⟨b', hb', ?_⟩⟩
      simp only [pkey, hv, hv', Int.toNat_natCast]
    rw [prod_len, List.length_map, List.length_append, List.length_singleton] at h
    have hk := U.wf.kl
    have : L.K.length * L.K.length ≤ 28 * 28 := Nat.mul_le_mul hk hk
    omega
  have hzl : (cs.zip ds).length ≤ 2 := Nat.le_trans (by rw [List.length_zip]; exact Nat.min_le_left ..) hlen
  cases e with
  | zero => exact absurd hml (by rw [← he, Nat.zero_add]; exact Nat.not_succ_le_self _)
  | succ e =>
  have hlt1 : 3 * e + (W.length + (cs.zip ds).length) < n := dec_ar hzl hn
  have hmem : ∀ p, p ∈ W ++ (cs.zip ds).reverse ↔ p ∈ W ∨ p ∈ cs.zip ds := fun p => by simp
  have hzip : ∀ m : Val, ∀ st, st ∈ (cs.map (m.of L.fn)).zip (ds.map (m.of L.fn)) ↔ ∃ p ∈ cs.zip ds, (m.of L.fn p.1, m.of L.fn p.2) = st := fun m st => by
    rw [List.zip_map, List.mem_map]; rfl
  refine ⟨3 * e + (W.length + (cs.zip ds).length), hlt1, U.wf, U.gen, U.tr, fun m => (U.eqv m).trans ⟨fun ⟨a, b⟩ => ⟨a, fun p hp => ?_⟩, fun ⟨a, b⟩ => ⟨a, fun p hp => ?_⟩⟩, fun p hp => ?_, mcell, mnd, fun m hm p hp => ?_, fun m hm p hp st hst => ?_, ⟨e, by rw [List.length_append, ← he]; exact (Nat.add_right_comm e 1 _).symm, by rw [List.length_append, List.length_reverse]⟩, Nat.le_trans (Nat.le_of_lt hlt1) h3⟩
  · obtain ⟨e1, e2, k1, k2, k3, k4, k5⟩ := h m a
    rcases (hmem p).mp hp with hp | hp
    · exact b p (mem_snoc.mpr (.inl hp))
    · have e := b u (mem_snoc.mpr (.inr rfl))
      rw [e1, e2] at e
      have := (dec_iff (θ := T.v) k1 k2 k3).mp (by rw [T.sub_v, T.sub_v]; exact e) (m.of L.fn p.1, m.of L.fn p.2) (by rw [k4, k5, hzip]; exact ⟨p, hp, rfl⟩)
      rwa [T.sub_v, T.sub_v] at this
  · obtain ⟨e1, e2, k1, k2, k3, k4, k5⟩ := h m a
    rcases mem_snoc.mp hp with hp | rfl
    · exact b p ((hmem p).mpr (.inl hp))
    · rw [e1, e2]
      refine args_eq k1 k2 k3 fun st hst => ?_
      rw [k4, k5, hzip] at hst
      obtain ⟨q, hq, rfl⟩ := hst
      exact b q ((hmem q).mpr (.inr hq))
  · rcases (hmem p).mp hp with hp | hp
    · exact U.cells p (mem_snoc.mpr (.inl hp))
    · have := List.of_mem_zip (a := p.1) (b := p.2) hp
      exact ⟨hcs _ this.1, hds _ this.2⟩
  · rcases mem_snoc.mp hp with hp | rfl
    · exact U.mfn m hm p hp
    · obtain ⟨e1, e2, k1, k2, k3, k4, k5⟩ := h m hm
      exact ⟨k1, k2, k3⟩
  · obtain ⟨e1, e2, k1, k2, k3, k4, k5⟩ := h m hm
    rcases mem_snoc.mp hp with hp | rfl
    · rcases U.cl m hm p hp st hst with e | ⟨w, hw, f1, f2⟩ | ⟨p', hp', f⟩
      · exact .inl e
      · rcases mem_snoc.mp hw with hw | rfl
        · exact .inr (.inl ⟨w, (hmem w).mpr (.inl hw), f1, f2⟩)
        · exact .inr (.inr ⟨(l, r), mem_snoc.mpr (.inr rfl), by rw [← f1, e1], by rw [← f2, e2]⟩)
      · exact .inr (.inr ⟨p', mem_snoc.mpr (.inl hp'), f⟩)
    · dsimp only at hst
      rw [k4, k5, hzip] at hst
      obtain ⟨q, hq, rfl⟩ := hst
      exact .inr (.inl ⟨q, (hmem q).mpr (.inr hq), rfl, rfl⟩)
theorem US.no (U : US L nm x0 x c1 c2 x' G (W ++ [u]) ms n) (h : ∀ m, Mod L x' m → m.of L.fn u.1 ≠ m.of L.fn u.2) : ∀ m, Mod L x m → m.of L.fn c1 ≠ m.of L.fn c2 := fun m hm e => by
  obtain ⟨a, b⟩ := (U.eqv m).mp ⟨hm, e⟩
  exact h m a (b u (mem_snoc.mpr (.inr rfl)))
theorem pnum_inj (hw : WF L x') {p q : Ce × Ce} (hp : (L.cell p.1 ∧ (p.1.tag = 2 ∨ p.1.tag = 3)) ∧ (L.cell p.2 ∧ (p.2.tag = 2 ∨ p.2.tag = 3))) (hq : (L.cell q.1 ∧ (q.1.tag = 2 ∨ q.1.tag = 3)) ∧ (L.cell q.2 ∧ (q.2.tag = 2 ∨ q.2.tag = 3))) (h : pnum L p = pnum L q) : pkey p = pkey q := by
  obtain ⟨a, _, ha, ha2⟩ := hw.key hp.1.1 hp.1.2
  obtain ⟨b, _, hb, hb2⟩ := hw.key hp.2.1 hp.2.2
  obtain ⟨a', _, ha', ha2'⟩ := hw.key hq.1.1 hq.1.2
  obtain ⟨b', _, hb', hb2'⟩ := hw.key hq.2.1 hq.2.2
  simp only [pnum, pkey, ha, hb, ha', hb', Int.toNat_natCast] at h ⊢
  have h : a * (L.n + 1) + b = a' * (L.n + 1) + b' := by
    have : ((a * (L.n + 1) + b : Nat) : Int) = ((a' * (L.n + 1) + b' : Nat) : Int) := by
      rw [Int.natCast_add, Int.natCast_add, Int.natCast_mul, Int.natCast_mul]; exact h
    exact Int.ofNat_inj.mp this
  have e1 : (a * (L.n + 1) + b) % (L.n + 1) = b := by rw [Nat.mul_comm, Nat.mul_add_mod, Nat.mod_eq_of_lt (Nat.lt_succ_of_lt hb2)]
  have e2 : (a' * (L.n + 1) + b') % (L.n + 1) = b' := by rw [Nat.mul_comm, Nat.mul_add_mod, Nat.mod_eq_of_lt (Nat.lt_succ_of_lt hb2')]
  have eb : b = b' := by rw [← e1, ← e2, h]
  have ea : a = a' := Nat.eq_of_mul_eq_mul_right (Nat.succ_pos L.n) (by rw [eb] at h; exact Nat.add_right_cancel h)
  rw [ea, eb]
end
end
section
open PySem PySem.W PyProof.Rows
theorem var_at {c : Ce} {x : Sx} (h : x.at c = some c) : (c.tag = 0 ∨ c.tag = 1) ∧ x.isVar c := by
  cases c with
  | ref n => exact ⟨.inl rfl, (List.getElem?_eq_some_iff.mp (Sx.at_ref.mp h).1).1⟩
  | srf n => exact ⟨.inr rfl, (List.getElem?_eq_some_iff.mp (Sx.at_srf.mp h)).1⟩
  | _ => cases h
theorem num_big {c : Ce} (h : 2 ≤ c.tag) : c.num = 0 := by cases c <;> first | rfl | exact absurd h (of_decide_eq_true rfl : ¬ _)
theorem tag_hi {c : Ce} (h : ¬ (c.tag = 0 ∨ c.tag = 1)) : 2 ≤ c.tag := by
  cases c <;> first | exact of_decide_eq_true rfl | exact absurd (.inl rfl) h | exact absurd (.inr rfl) h
theorem encPs_concat (us : List (Ce × Ce)) (u : Ce × Ce) : encPs (us ++ [u]) = encPs us ++ [.tup [u.1.enc, u.2.enc]] := List.map_append
section
variable {C : Nat → Oracle} {A : SA} {x : Sx} {H : AH} {L : Ly} {nm : Nat → Nat} {G : Val}
theorem bind_checked_spec (O : Orc C) (k : Nat) {c v : Ce} {o : Bool} {Q : Post} (h : StoreH A x H) (W : WF L x) (g : Gen L nm x G) (hc : x.at c = some c) (hv : L.cell v) (htv : 2 ≤ v.tag) (ht : x.trail.length < 1000)
    (q1 : o = true → (G.of L.fn v).occ (c.nam nm) → ∀ H', Gr A.mut H H' → StoreH A x H' → Q (.d (.bool false)) H')
    (q2 : (o = false ∨ ¬ (G.of L.fn v).occ (c.nam nm)) → ∀ H', Gr A.mut H H' → StoreH A (x.bind c v) H' → Q (.d (.bool true)) H') :
    C (k + 5) (.fn "bind_checked") [.r A.s, .d c.enc, .d v.enc, .d (.bool o)] H Q := by
  refine intro4 O def_bind_checked (by decide) (by decide) (by decide) (by decide) (by decide) (by decide) fun f f1 f2 f3 f4 => ?_
  tb_start
  refine ifB o (fun eo => ?_) (fun eo => ?_)
  · tb_start
    refine occurs_in_spec O k h W g hc hv htv fun H1 z g1 hz => ifB z (fun e => ?_) (fun e => ?_)
    · tb_start
      exact q1 eo (hz.mp e) H1 g1.up0 (h.gr0 g1)
    · have h1 := h.gr0 g1
      tb_start
      refine bind_spec O (k + 3) h1 (var_at hc).2 ht fun H2 g2 h2 => ?_
      tb_start
      exact q2 (.inr fun ho => by rw [hz.mpr ho] at e; cases e) H2 (g1.up0.tr g2) h2
  · tb_start
    refine bind_spec O (k + 3) h (var_at hc).2 ht fun H2 g2 h2 => ?_
    tb_start
    exact q2 (.inl eo) H2 g2 h2
theorem const_form {e : Ce} (he : L.cell e) (h2 : 2 ≤ e.tag) (h : ¬ (e.tag = 2 ∨ e.tag = 3)) : ∃ t : T, t.mark ≠ "s" ∧ (∀ m : Val, m.of L.fn e = t) ∧ ∀ d : Ce, (∀ m : Val, m.of L.fn d = t) → L.cell d → 2 ≤ d.tag → ¬ (d.tag = 2 ∨ d.tag = 3) → d = e := by
  cases e with
  | con a =>
    refine ⟨.a a, (by decide : "a" ≠ "s"), fun _ => rfl, fun d hd hc h3 h4 => ?_⟩
    cases d with
    | con b => have := hd ⟨T.v, T.v⟩; cases this; rfl
    | int b => cases hd ⟨T.v, T.v⟩
    | fn b => exact hc.elim
    | str b => exact absurd (.inl rfl) h4
    | lis b => exact absurd (.inr rfl) h4
    | _ => exact absurd h3 (of_decide_eq_true rfl : ¬ _)
  | int a =>
    refine ⟨.i a, (by decide : "i" ≠ "s"), fun _ => rfl, fun d hd hc h3 h4 => ?_⟩
    cases d with
    | int b => have := hd ⟨T.v, T.v⟩; cases this; rfl
    | con b => cases hd ⟨T.v, T.v⟩
    | fn b => exact hc.elim
    | str b => exact absurd (.inl rfl) h4
    | lis b => exact absurd (.inr rfl) h4
    | _ => exact absurd h3 (of_decide_eq_true rfl : ¬ _)
  | fn a => exact he.elim
  | str a => exact absurd (.inl rfl) h
  | lis a => exact absurd (.inr rfl) h
  | _ => exact absurd h2 (of_decide_eq_true rfl : ¬ _)
theorem clash_const (W : WF L x) {l r : Ce} (hl : L.cell l) (hr : L.cell r) (l2 : 2 ≤ l.tag) (r2 : 2 ≤ r.tag) (hne : l ≠ r) (hc : ¬ (l.tag = 2 ∨ l.tag = 3)) {m : Val} (hm : Mod L x m) : m.of L.fn l ≠ m.of L.fn r := fun e => by
  obtain ⟨t, h1, h2, _⟩ := const_form hl l2 hc
  rw [h2] at e
  rcases Decidable.em (r.tag = 2 ∨ r.tag = 3) with hr23 | hr23
  · obtain ⟨_, _, _, _, _, _, _, _, _, _, hb⟩ := W.blk hr hr23
    exact h1 (by rw [e]; exact (hb m hm).1)
  · obtain ⟨t', h3, h4, h5⟩ := const_form hr r2 hr23
    rw [h4] at e
    exact hne (h5 l (fun m => (h2 m).trans e) hl l2 hc)
theorem clash_shape (W : WF L x) {l r : Ce} {f : Nat} (hl : L.cell l) (hr : L.cell r) (r2 : 2 ≤ r.tag) (lt : l.tag = 2 ∨ l.tag = 3) (hf : l.fnum x.heap = some f) (hn : r.fnum x.heap ≠ some f) {m : Val} (hm : Mod L x m) : m.of L.fn l ≠ m.of L.fn r := fun e => by
  obtain ⟨_, f1, _, hf1, _, _, _, _, _, _, hb⟩ := W.blk hl lt
  have b1 := hb m hm
  rcases Decidable.em (r.tag = 2 ∨ r.tag = 3) with hr23 | hr23
  · obtain ⟨_, f2, _, hf2, _, _, _, _, _, _, hb2⟩ := W.blk hr hr23
    have b2 := hb2 m hm
    have hff : (f1 : Int) = f2 := b1.2.1.symm.trans ((congrArg T.fnum e).trans b2.2.1)
    rw [hf] at hf1
    rw [hf2, ← Int.ofNat.inj hff] at hn
    exact hn hf1.symm
  · obtain ⟨t', h3, h4, _⟩ := const_form hr r2 hr23
    exact h3 (by rw [← h4 m, ← e]; exact b1.1)
theorem occ_no (W : WF L x) (g : Gen L nm x G) {c v : Ce} (hc : x.at c = some c) (hv : L.cell v) (htv : 2 ≤ v.tag) (ho : (G.of L.fn v).occ (c.nam nm)) {m : Val} (hm : Mod L x m) : m.of L.fn c ≠ m.of L.fn v := fun e => by
  have hc0 := g.gen m hm c (W.at_cell hc)
  have hv0 := g.gen m hm v hv
  rw [g.un c hc] at hc0
  have hne : G.of L.fn v ≠ .v (c.nam nm) := fun e => by
    cases v <;> first | (exact absurd htv (of_decide_eq_true rfl : ¬ _)) | (cases e; done) | (unfold Val.of at e; simp only at e; split at e <;> cases e)
  have := occ_lt (θ := m.key) ho hne
  rw [← hv0, ← e, hc0] at this
  exact absurd this (Nat.lt_irrefl _)
theorem args_len2 {s t : T} (hs : s.mark = "s") (ht : t.mark = "s") (hf : s.fnum = t.fnum) : s.args.length = t.args.length := by
  rcases same_fun hs ht hf with ⟨y, y2, rfl, rfl⟩ | ⟨d0, y, y2, z1, z2, rfl, rfl⟩
  · rfl
  · rfl
section
variable {x0 x' : Sx} {c1 c2 : Ce} {W ms : List (Ce × Ce)} {n : Nat} {u : Ce × Ce}
theorem US.bindv (U : US L nm x0 x c1 c2 x' G (W ++ [u]) ms n) (hl : x'.heap.length = x0.heap.length) {c v : Ce} (hc : x'.at c = some c) (hv : L.cell v) (htv : 2 ≤ v.tag) (ho : ¬ (G.of L.fn v).occ (c.nam nm))
    (h : ∀ m, Mod L x' m → (m.of L.fn u.1 = m.of L.fn u.2 ↔ m.of L.fn c = m.of L.fn v)) : ∃ n' G', n' < n ∧ US L nm x0 x c1 c2 (x'.bind c v) G' W ms n' :=
  U.bind hc hv (by rw [num_big htv]; exact Nat.zero_le _) ho (fun _ e => by rw [e] at htv; exact absurd htv (by decide)) (fun i hi => by
    rw [hi] at hc
    rw [← hl]; exact (List.getElem?_eq_some_iff.mp (Sx.at_ref.mp hc).1).1) h
theorem US.pair (U : US L nm x0 x c1 c2 x' G (W ++ [u]) ms n) (hl : x'.heap.length = x0.heap.length) {c d : Ce} (hc : x'.at c = some c) (hd : x'.at d = some d) (hn : d.num < c.num)
    (h : ∀ m, Mod L x' m → (m.of L.fn u.1 = m.of L.fn u.2 ↔ m.of L.fn c = m.of L.fn d)) : ∃ n' G', n' < n ∧ US L nm x0 x c1 c2 (x'.bind c d) G' W ms n' :=
  U.bind hc (U.wf.at_cell hd) (Nat.le_of_lt hn) (fun ho => by
    rw [U.gen.un d hd] at ho
    rw [U.gen.inj d c hd hc (show d.nam nm = c.nam nm from ho)] at hn
    exact absurd hn (Nat.lt_irrefl _)) (fun htc htd => by
      have h1 := var_hi (var_at hd).2 (by rw [htd]; decide)
      have h2 := var_lo (var_at hc).2 (by rw [U.wf.hl]; exact Nat.le_trans U.wf.lt (by decide)) (by rw [htc]; decide)
      exact absurd (Nat.lt_of_le_of_lt h1.2 (Nat.lt_trans hn h2)) (Nat.lt_irrefl _)) (fun i hi => by
    rw [hi] at hc
    rw [← hl]; exact (List.getElem?_eq_some_iff.mp (Sx.at_ref.mp hc).1).1) h
theorem US.met (U : US L nm x0 x c1 c2 x' G W ms n) {l r : Ce} (hl : L.cell l) (hr : L.cell r) (tl : l.tag = 2 ∨ l.tag = 3) (tr : r.tag = 2 ∨ r.tag = 3) (h : pnum L (l, r) ∈ ms.map (pnum L)) : (l, r) ∈ ms := by
  obtain ⟨⟨p1, p2⟩, hpp, hpe⟩ := List.mem_map.mp h
  have hmc := U.mcell _ hpp
  have hk := pnum_inj U.wf hmc ⟨⟨hl, tl⟩, hr, tr⟩ hpe
  have key : ∀ {a b : Ce}, L.cell a → (a.tag = 2 ∨ a.tag = 3) → L.cell b → (b.tag = 2 ∨ b.tag = 3) → a.val.toNat = b.val.toNat → a = b := fun ha ta hb tb e => by
    obtain ⟨q1, _, hq1, _⟩ := U.wf.key ha ta
    obtain ⟨q2, _, hq2, _⟩ := U.wf.key hb tb
    rw [hq1, hq2, Int.toNat_natCast, Int.toNat_natCast] at e
    exact val_inj ha hb ta tb (by rw [hq1, hq2, e])
  have e1 : p1 = l := key hmc.1.1 hmc.1.2 hl tl (congrArg Prod.fst hk)
  have e2 : p2 = r := key hmc.2.1 hmc.2.2 hr tr (congrArg Prod.snd hk)
  rw [← e1, ← e2]; exact hpp
theorem US.unmet (U : US L nm x0 x c1 c2 x' G W ms n) {l r : Ce} {b b' : Nat} (hl : l.val = (b : Int)) (hr : r.val = (b' : Int)) (h : pnum L (l, r) ∉ ms.map (pnum L)) : pkey (l, r) ∉ ms.map pkey := fun hmm => by
  obtain ⟨pp, hpp, hpe⟩ := List.mem_map.mp hmm
  refine h (List.mem_map.mpr ⟨pp, hpp, ?_⟩)
  have hmc := U.mcell pp hpp
  obtain ⟨q1, _, hq1, _⟩ := U.wf.key hmc.1.1 hmc.1.2
  obtain ⟨q2, _, hq2, _⟩ := U.wf.key hmc.2.1 hmc.2.2
  have e1 := congrArg Prod.fst hpe
  have e2 := congrArg Prod.snd hpe
  simp only [pkey, hq1, hq2, hl, hr, Int.toNat_natCast] at e1 e2
  simp only [pnum, hq1, hq2, hl, hr, e1, e2]
end
noncomputable def uobjs (L : Ly) (w p dx mt : Addr) (us ms : List (Ce × Ce)) : List (Addr × AO) := [(p, .inst .pairs dx), (dx, .ns [("span", .d (.int ((L.n + 1 : Nat) : Int))), ("met", .r mt)]), (mt, .set (ms.map (pnum L))), (w, .lst (encPs us))]
inductive UH (A : SA) (L : Ly) (nm : Nat → Nat) (x0 x : Sx) (c1 c2 : Ce) (w p dx mt : Addr) (H2 : AH) (n : Nat) (H' : AH) : Prop
  | mk {x' : Sx} {G : Val} {W ms : List (Ce × Ce)} (g : Gr (w :: mt :: A.mut) H2 H') (hS : StoreH A x' H') (hv : Hv (uobjs L w p dx mt W ms) H') (U : US L nm x0 x c1 c2 x' G W ms n) : UH A L nm x0 x c1 c2 w p dx mt H2 n H'
inductive UI (A : SA) (L : Ly) (nm : Nat → Nat) (x0 x : Sx) (c1 c2 : Ce) (o : Bool) (w p dx mt : Addr) (H2 : AH) (n : Nat) (f : Frm) (H' : AH) : Prop
  | mk (f1 : f "store" = some (.r A.s)) (f2 : f "work" = some (.r w)) (f3 : f "met" = some (.r p)) (f4 : f "occurs" = some (.d (.bool o))) (h : UH A L nm x0 x c1 c2 w p dx mt H2 n H') : UI A L nm x0 x c1 c2 o w p dx mt H2 n f H'
theorem unify_turn (O : Orc C) (k : Nat) {x0 x' : Sx} {c1 c2 l r : Ce} {o : Bool} {w p dx mt : Addr} {H2 H4 : AH} {n : Nat} {us ms : List (Ce × Ce)} {u : Ce × Ce} {f : Frm} {R : SPost} {J : Frm → AH → Prop}
    (dis : ∀ a ∈ [p, dx, mt, w], a ∉ A.all) (hcheck : o = true ∨ ∃ m, Mod L x m ∧ m.of L.fn c1 = m.of L.fn c2) (hx0 : x'.heap.length = x0.heap.length) (htr : x'.trail.length < 1000)
    (f1 : f "store" = some (.r A.s)) (f2 : f "work" = some (.r w)) (f3 : f "met" = some (.r p)) (f4 : f "occurs" = some (.d (.bool o))) (f5 : f "left" = some (.d l.enc)) (f6 : f "right" = some (.d r.enc))
    (g4 : Gr (w :: mt :: A.mut) H2 H4) (hS : StoreH A x' H4) (hv : Hv (uobjs L w p dx mt us ms) H4) (U : US L nm x0 x c1 c2 x' G (us ++ [u]) ms n)
    (hlc : L.cell l) (hrc : L.cell r) (hle : 2 ≤ l.tag ∨ x'.at l = some l) (hre : 2 ≤ r.tag ∨ x'.at r = some r) (hlv : ∀ m, Mod L x' m → m.of L.fn u.1 = m.of L.fn l) (hrv : ∀ m, Mod L x' m → m.of L.fn u.2 = m.of L.fn r)
    (out : ∀ n' H5, n' < n → UH A L nm x0 x c1 c2 w p dx mt H2 n' H5 → J f H5) (no : ∀ H5, Gr A.mut H4 H5 → StoreH A x' H5 → (∀ m, Mod L x m → m.of L.fn c1 ≠ m.of L.fn c2) → R (.ret (.d (.bool false))) f H5) :
    Wxs (C (k + 5)) [
    .ife (.cmp .Eq (.loc "left") (.loc "right")) [
      .cnt] [],
    .ife (.fn "is_variable" [(.loc "left")]) [
      .ife (.fn "is_variable" [(.loc "right")]) [
        .exp (.met .store (.loc "store") "bind_pair" [(.loc "left"), (.loc "right")])] [
        .ife (.notE (.fn "bind_checked" [(.loc "store"), (.loc "left"), (.loc "right"), (.loc "occurs")])) [
          .ret (.con (.bool false))] []]] [
      .ife (.fn "is_variable" [(.loc "right")]) [
        .ife (.notE (.fn "bind_checked" [(.loc "store"), (.loc "right"), (.loc "left"), (.loc "occurs")])) [
          .ret (.con (.bool false))] []] [
        .ife (.andE (.met .store (.loc "store") "is_compound" [(.loc "left")]) (.fn "same_shape" [(.loc "store"), (.loc "left"), (.loc "right")])) [
          .ife (.met .pairs (.loc "met") "add" [(.loc "left"), (.loc "right")]) [
            .exp (.fn "push_pairs" [(.loc "store"), (.loc "left"), (.loc "right"), (.loc "work")])] []] [
          .ret (.con (.bool false))]]]] f H4 (turnQ J R) := by
  have hiff : ∀ m, Mod L x' m → (m.of L.fn u.1 = m.of L.fn u.2 ↔ m.of L.fn l = m.of L.fn r) := fun m hm => by rw [hlv m hm, hrv m hm]
  have dM : ∀ b ∈ (uobjs L w p dx mt us ms).map (·.1), b ∉ A.mut := fun b hb hm => dis b hb (SA.mut_sub hm)
  have up : ∀ {H5}, Gr A.mut H4 H5 → Gr (w :: mt :: A.mut) H2 H5 := fun g5 => g4.tr (g5.up fun a ha => .tail _ (.tail _ ha))
  have skip : ∀ {Hz : AH}, Hz = H4 → (∀ m, Mod L x' m → m.of L.fn u.1 = m.of L.fn u.2 ∨ ∃ p ∈ ms, m.of L.fn p.1 = m.of L.fn u.1 ∧ m.of L.fn p.2 = m.of L.fn u.2) → J f Hz := fun e hh => by
    obtain ⟨n', hn', U'⟩ := U.skip hh
    rw [e]
    exact out n' _ hn' ⟨g4, hS, hv, U'⟩
  have hvar : ∀ {c v : Ce}, x'.at c = some c → L.cell v → 2 ≤ v.tag → (∀ m, Mod L x' m → (m.of L.fn u.1 = m.of L.fn u.2 ↔ m.of L.fn c = m.of L.fn v)) → ∀ {a b : Str}, f a = some (.d c.enc) → f b = some (.d v.enc) →
      Wxs (C (k + 5)) [.ife (.notE (.fn "bind_checked" [(.loc "store"), (.loc a), (.loc b), (.loc "occurs")])) [.ret (.con (.bool false))] []] f H4 (turnQ J R) := by
    intro c v hc hv' htv hi a b a5 a6
    tb_start
    refine bind_checked_spec O k hS U.wf U.gen hc hv' htv htr (fun ho hocc H5 g5 h5 => ?_) fun ho H5 g5 h5 => ?_
    · tb_start
      exact no H5 g5 h5 (U.no fun m hm e => occ_no U.wf U.gen hc hv' htv hocc hm ((hi m hm).mp e))
    · have hno' : ¬ (G.of L.fn v).occ (c.nam nm) := fun hoc => by
        rcases hcheck with e | ⟨m, hm, e⟩
        · rcases ho with e' | e'
          · rw [e] at e'; cases e'
          · exact e' hoc
        · obtain ⟨b1, b2⟩ := (U.eqv m).mp ⟨hm, e⟩
          exact occ_no U.wf U.gen hc hv' htv hoc b1 ((hi m b1).mp (b2 u (mem_snoc.mpr (.inr rfl))))
      obtain ⟨n', G2, hn', U2⟩ := U.bindv hx0 hc hv' htv hno' hi
      tb_start
      exact out n' _ hn' ⟨up g5, h5, hv.gr g5 dM, U2⟩
  have atl : (l.tag = 0 ∨ l.tag = 1) → x'.at l = some l := fun h => hle.resolve_left fun e => by omega
  have atr : (r.tag = 0 ∨ r.tag = 1) → x'.at r = some r := fun h => hre.resolve_left fun e => by omega
  tb_start
  refine cEqC' (fun z => ?_) (fun hlr => ?_)
  · tb_start
    exact skip rfl fun m hm => .inl ((hiff m hm).mpr (by rw [z]))
  tb_start
  refine is_variable_spec O (k + 4) fun z1 hz1 => ifB z1 (fun e1 => ?_) (fun e1 => ?_)
  · have lat := atl (hz1.mp e1)
    tb_start
    refine is_variable_spec O (k + 4) fun z2 hz2 => ifB z2 (fun e2 => ?_) (fun e2 => ?_)
    · have rat := atr (hz2.mp e2)
      tb_start
      refine bind_pair_spec O (k + 3) hS (var_at lat).2 (var_at rat).2 (by rw [U.wf.hl]; exact Nat.le_trans U.wf.lt (by decide)) htr hlr (fun hlt H5 g5 h5 => ?_) fun hlt H5 g5 h5 => ?_
      · obtain ⟨n', G2, hn', U2⟩ := U.pair hx0 rat lat hlt fun m hm => (hiff m hm).trans eq_comm
        tb_start
        exact out n' _ hn' ⟨up g5, h5, hv.gr g5 dM, U2⟩
      · obtain ⟨n', G2, hn', U2⟩ := U.pair hx0 lat rat hlt hiff
        tb_start
        exact out n' _ hn' ⟨up g5, h5, hv.gr g5 dM, U2⟩
    · exact hvar lat hrc (tag_hi fun h => by rw [hz2.mpr h] at e2; cases e2) hiff f5 f6
  have l2 : 2 ≤ l.tag := tag_hi fun h => by rw [hz1.mpr h] at e1; cases e1
  tb_start
  refine is_variable_spec O (k + 4) fun z2 hz2 => ifB z2 (fun e2 => ?_) (fun e2 => ?_)
  · exact hvar (atr (hz2.mp e2)) hlc l2 (fun m hm => (hiff m hm).trans eq_comm) f6 f5
  have r2 : 2 ≤ r.tag := tag_hi fun h => by rw [hz2.mpr h] at e2; cases e2
  have fail : (∀ m, Mod L x' m → m.of L.fn l ≠ m.of L.fn r) → R (.ret (.d (.bool false))) f H4 := fun hh => no H4 (Gr.refl _ _) hS (U.no fun m hm e => hh m hm ((hiff m hm).mp e))
  tb_start
  refine is_compound_spec O (k + 4) fun z3 hz3 => ifB z3 (fun e3 => ?_) (fun e3 => ?_)
  case refine_2 =>
    tb_start
    exact fail fun m hm => clash_const U.wf hlc hrc l2 r2 hlr (fun h => by rw [hz3.mpr h] at e3; cases e3) hm
  have lt := hz3.mp e3
  obtain ⟨cs, fl, hblk, hfn, hstr, hcs, b, hbK, hbv, hbn, hb⟩ := U.wf.blk hlc lt
  tb_start
  refine same_shape_spec O (k + 4) hS hfn (fun a ha => ?_) (fun a ha => (hstr a ha).1) fun z4 hz4 => ifB z4 (fun e4 => ?_) (fun e4 => ?_)
  · subst ha
    obtain ⟨_, fr, _, _, hstr', _⟩ := U.wf.blk hrc (.inl rfl)
    exact ⟨fr, (hstr' a rfl).2, (hstr' a rfl).1⟩
  case refine_3 =>
    tb_start
    exact fail fun m hm => clash_shape U.wf hlc hrc r2 lt hfn (fun h => by rw [hz4.mpr h] at e4; cases e4) hm
  have hfr := hz4.mp e4
  have rt : r.tag = 2 ∨ r.tag = 3 := by
    rcases Ce.fnum_cases hfr with ⟨a, rfl, _⟩ | ⟨a, rfl, _⟩
    · exact .inr rfl
    · exact .inl rfl
  obtain ⟨ds, fr, hblk', hfn', hstr', hds, b', hbK', hbv', hbn', hb'⟩ := U.wf.blk hrc rt
  have hff : fl = fr := by rw [hfn'] at hfr; exact (Option.some.inj hfr).symm
  have hml := U.mlen
  have hpn : (b : Int) * ((L.n + 1 : Nat) : Int) + (b' : Int) = pnum L (l, r) := by simp only [pnum, hbv, hbv']
  tb_start
  refine eMet (ofLoc f3) (hv.get 0 rfl) (hv.get 1 rfl) (by kernel_rfl) ?_
  tb_start
  refine pairs_add_spec O (k + 4) (hv.get 0 rfl) (hv.get 1 rfl) (hv.get 2 rfl) (by rw [List.length_map]; exact Nat.lt_of_le_of_lt hml (by decide)) hbv hbv' (Nat.lt_of_le_of_lt (Nat.succ_le_succ U.wf.lt) (by decide)) (fun hin => ?_) fun hin => ?_
  · rw [hpn] at hin
    tb_start
    exact skip rfl fun m hm => .inr ⟨(l, r), U.met hlc hrc lt rt hin, (hlv m hm).symm, (hrv m hm).symm⟩
  · rw [hpn] at hin ⊢
    have hS5 := hS.other (o := .set (ms.map (pnum L) ++ [pnum L (l, r)])) (dis mt (.tail _ (.tail _ (.head _))))
    have hv5 := hv.upd 2 rfl (.set (ms.map (pnum L) ++ [pnum L (l, r)]))
    have g5 : Gr (w :: mt :: A.mut) H2 (H4.set mt (.set (ms.map (pnum L) ++ [pnum L (l, r)]))) := g4.tr (gr_mem (.tail _ (.head _)))
    generalize H4.set mt (.set (ms.map (pnum L) ++ [pnum L (l, r)])) = H5 at hS5 hv5 g5 ⊢
    have e1 := hb G U.gen.mod
    have e2 := hb' G U.gen.mod
    have hlen2 : cs.length = ds.length := by
      have := args_len2 e1.1 e2.1 (by rw [e1.2.1, e2.2.1, hff])
      rw [e1.2.2, e2.2.2, List.length_map, List.length_map] at this; exact this
    obtain ⟨n', hn', U2⟩ := U.dec ⟨hlc, lt⟩ ⟨hrc, rt⟩ (U.unmet hbv hbv' hin) (fun d hd => (hcs d hd).1) (fun d hd => (hds d hd).1) hblk.len fun m hm => by
      obtain ⟨b1, b2, b3⟩ := hb m hm
      obtain ⟨b4, b5, b6⟩ := hb' m hm
      exact ⟨hlv m hm, hrv m hm, b1, b4, by rw [b2, b5, hff], b3, b6⟩
    have hun := U.hn
    have hu3 := U.n3
    rw [List.length_append] at hun
    tb_start
    refine push_pairs_spec O (k + 2) hS5 hblk hblk' hlen2 (hv5.get 3 rfl) (dis w (.tail _ (.tail _ (.tail _ (.head _))))) (by omega) fun H6 g6 hS6 hw6 => ?_
    tb_start
    have hv6 := hv5.gr1 3 rfl g6 hw6
    refine out n' _ hn' ⟨g5.tr (g6.up fun a ha => by rw [List.mem_singleton.mp ha]; exact .head _), hS6, ?_, U2⟩
    have e : ms.map (pnum L) ++ [pnum L (l, r)] = (ms ++ [(l, r)]).map (pnum L) := (List.map_append (l₂ := [(l, r)])).symm
    rw [e] at hv6
    exact hv6
set_option tactic.hygienic true in
theorem unify_spec (O : Orc C) (k : Nat) {x0 : Sx} {c1 c2 : Ce} {o : Bool} {Q : Post} (h : StoreH A x H) (W : WF L x) (g : Gen L nm x G) (t : Tr x0 x) (h1 : L.cell c1) (h2 : L.cell c2)
    (hu5 : ∀ n : Nat, x0.heap[n]? = some (.ref n) → n < 5) (hsl : x0.stack.length = 2) (hhl : x.heap.length = x0.heap.length) (hcheck : o = true ∨ ∃ m, Mod L x m ∧ m.of L.fn c1 = m.of L.fn c2)
    (q : ∀ H' x' (z : Bool), Gr A.mut H H' → StoreH A x' H' → Tr x0 x' → x'.heap.length = x.heap.length → (z = true → WF L x' ∧ (∃ G', Gen L nm x' G') ∧ ∀ m, (Mod L x' m ↔ (Mod L x m ∧ m.of L.fn c1 = m.of L.fn c2))) → (z = false → ∀ m, Mod L x m → m.of L.fn c1 ≠ m.of L.fn c2) → Q (.d (.bool z)) H') :
    C (k + 6) (.fn "unify") [.r A.s, .d c1.enc, .d c2.enc, .d (.bool o)] H Q := by
  refine intro4 O def_unify (by decide) (by decide) (by decide) (by decide) (by decide) (by decide) fun f f1 f2 f3 f4 => ?_
  refine sAsg (eNew ?_)
  tb_start
  intro p dx H1 hp hdx k1 k2 g1
  have hpA : p ∉ A.all := h.ne hp
  have hdA : dx ∉ A.all := h.ne hdx
  have nil : ∀ {a : Addr}, a ∉ ([] : List Addr) := fun z => (nomatch z)
  have hpd : p ≠ dx := fun e => by rw [e, k2] at k1; cases k1
  refine pairs_init_spec O (k + 4) (h.gr0 g1) k1 k2 hdA fun H3 mt g3 hS3 hd3 hm3 hmA hmp hmd hmn => ?_
  have hp3 := g3 p _ (fun z => hpd (List.mem_singleton.mp z)) k1
  have gg : Gr [] H H3 := g1.trans g3 fun x hx => .inr (by rw [List.mem_singleton.mp hx]; exact hdx)
  tb_start
  intro w hw
  have hv := (((Ini.start hp3 hd3).hv.snoc (fun z => (List.mem_cons.mp z).elim hmp fun z => hmd (List.mem_singleton.mp z)) hm3).new hw (.lst (encPs [(c1, c2)])))
  have hS2 := hS3.new (o := .lst (encPs [(c1, c2)])) hw
  have hwn : H w = none := gg.back hw nil
  have hmn' : H mt = none := g1.back hmn nil
  have g2 : Gr [] H (H3.set w (.lst (encPs [(c1, c2)]))) := gg.tr (Gr.new hw)
  have dis : ∀ a ∈ [p, dx, mt, w], a ∉ A.all := List.forall_mem_cons.mpr ⟨hpA, List.forall_mem_cons.mpr ⟨hdA, List.forall_mem_cons.mpr ⟨hmA, List.forall_mem_cons.mpr ⟨hS3.ne hw, fun _ z => (nomatch z)⟩⟩⟩⟩
  show Wxs _ _ _ (H3.set w (.lst (encPs [(c1, c2)]))) _
  generalize H3.set w (.lst (encPs [(c1, c2)])) = H2 at hS2 hv g2 ⊢
  rw [W.hl] at hv
  have gfin : ∀ {H4}, Gr (w :: mt :: A.mut) H2 H4 → Gr A.mut H H4 := fun gg => g2.up0.trans gg fun a ha => by
    rcases List.mem_cons.mp ha with rfl | ha
    · exact .inr hwn
    · rcases List.mem_cons.mp ha with rfl | ha
      · exact .inr hmn'
      · exact .inl ha
  refine sWhl (UI A L nm x0 x c1 c2 o w p dx mt H2) 2353 ⟨by k_caught0, by k_caught0, by k_caught0, by k_caught0, .mk (W := [(c1, c2)]) (ms := []) (Gr.refl _ _) hS2 hv (US.start W g t h1 h2)⟩ fun n f H' I => ?_
  obtain ⟨f1, f2, f3, f4, gg, hS, hv, U⟩ := I
  rename_i x' G' W' ms
  have hw' := hv.get 3 rfl
  have hxl : x'.heap.length = x.heap.length := by rw [U.wf.hl, W.hl]
  tb_start
  rcases List.eq_nil_or_concat W' with rfl | ⟨us, u, rfl⟩
  · refine ifDF (Int.lt_irrefl _) ?_
    tb_start
    exact q H' x' true (gfin gg) hS U.tr hxl (fun _ => ⟨U.wf, ⟨G', U.gen⟩, fun m => (U.eqv m).symm.symm.trans ⟨fun z => z.1, fun z => ⟨z, fun p hp => (nomatch hp)⟩⟩ |>.symm⟩) fun z => (nomatch z)
  rw [List.concat_eq_append] at hw' hv U ⊢
  refine ifDT (by rw [encPs_len, List.length_append, List.length_singleton]; exact Int.ofNat_lt.mpr (Nat.succ_pos _)) ?_
  rw [encPs_concat] at hw'
  obtain ⟨_, l, hl, hlc, hln, hle, hlv⟩ := U.wf.der _ (Nat.lt_succ_self _) (U.cells u (mem_snoc.mpr (.inr rfl))).1
  obtain ⟨_, r, hr, hrc, hrn, hre, hrv⟩ := U.wf.der _ (Nat.lt_succ_self _) (U.cells u (mem_snoc.mpr (.inr rfl))).2
  tb_start
  refine ePopC (ofLoc (by k_caught0)) hw' ?_
  have hS4 := hS.other (o := .lst (encPs us)) (dis w (.tail _ (.tail _ (.tail _ (.head _)))))
  have hv4 := hv.upd 3 rfl (.lst (encPs us))
  have g4 : Gr (w :: mt :: A.mut) H2 (H'.set w (.lst (encPs us))) := gg.tr (gr_mem (.head _))
  generalize H'.set w (.lst (encPs us)) = H4 at hS4 hv4 g4 ⊢
  tb_start
  refine deref_spec O (k + 4) hS4 hl ?_
  tb_start
  refine deref_spec O (k + 4) hS4 hr ?_
  refine unify_turn O k dis hcheck (hxl.trans hhl) (Nat.lt_of_le_of_lt (U.tr.short hu5 hsl) (by decide)) (by k_caught0) (by k_caught0) (by k_caught0) (by k_caught0) (by k_caught0) (by k_caught0) g4 hS4 hv4 U hlc hrc hle hre hlv hrv (fun n' H5 hn' hU => ⟨n', hn', by k_caught0, by k_caught0, by k_caught0, by k_caught0, hU⟩) fun H5 g5 h5 hno => ?_
  exact q H5 x' false ((gfin g4).tr g5) h5 U.tr hxl (fun z => (nomatch z)) fun _ => hno
end
theorem StoreH.set_hb {A : SA} {x : Sx} {H : AH} (h : StoreH A x H) {v : Int} {Q : AH → Prop} (q : ∀ H', Gr A.mut H H' → StoreH A { x with hb := v } H' → Q H') : setAttr H (.r A.s) "hb" (.d (.int v)) Q :=
  satOf (gs := A.fields v x.bb) h.s h.dx (by show 7 < 100; decide) (by kernel_rfl) (q _ gr_dx (h.setDx v x.bb))
theorem StoreH.set_bb {A : SA} {x : Sx} {H : AH} (h : StoreH A x H) {v : Int} {Q : AH → Prop} (q : ∀ H', Gr A.mut H H' → StoreH A { x with bb := v } H' → Q H') : setAttr H (.r A.s) "bb" (.d (.int v)) Q :=
  satOf (gs := A.fields x.hb v) h.s h.dx (by show 7 < 100; decide) (by kernel_rfl) (q _ gr_dx (h.setDx x.hb v))
theorem Tr.undone {x0 x x' : Sx} (t : Tr x0 x) (e1 : x0.hb = x0.heap.length) (e2 : x0.bb = x0.stack.length) (hl : x.heap.length = x0.heap.length) {hp st : List Ce} (l1 : hp.length = x.heap.length) (l2 : st.length = x.stack.length)
    (p1 : ∀ n : Nat, n < x.heap.length → (((n : Int) ∈ x.trail → hp[n]? = some (.ref n)) ∧ ((n : Int) ∉ x.trail → hp[n]? = x.heap[n]?)))
    (p2 : ∀ n : Nat, n < x.stack.length → ((-1 - (n : Int) ∈ x.trail → st[n]? = some (.srf n)) ∧ (-1 - (n : Int) ∉ x.trail → st[n]? = x.stack[n]?)))
    (tin : ∀ n : Nat, (n : Int) ∈ x.trail → x0.heap[n]? = some (.ref n)) (sin : ∀ n : Nat, -1 - (n : Int) ∈ x.trail → x0.stack[n]? = some (.srf n)) : hp = x0.heap ∧ st = x0.stack := by
  constructor
  · refine List.ext_getElem? fun n => ?_
    rcases Nat.lt_or_ge n x0.heap.length with hn | hn
    · obtain ⟨a, b⟩ := p1 n (by rw [hl]; exact hn)
      by_cases hm : (n : Int) ∈ x.trail
      · rw [a hm, tin n hm]
      · rw [b hm]
        exact Classical.byContradiction fun hne => hm ((t.hk n hn hne).2 (by rw [t.hb, e1]; exact Int.ofNat_lt.mpr hn))
    · rw [List.getElem?_eq_none (by rw [l1, hl]; exact hn), List.getElem?_eq_none hn]
  · refine List.ext_getElem? fun n => ?_
    rcases Nat.lt_or_ge n x0.stack.length with hn | hn
    · obtain ⟨a, b⟩ := p2 n (by rw [t.sl]; exact hn)
      by_cases hm : -1 - (n : Int) ∈ x.trail
      · rw [a hm, sin n hm]
      · rw [b hm]
        exact Classical.byContradiction fun hne => hm ((t.sk n hne).2 (by rw [t.bb, e2]; exact Int.ofNat_lt.mpr hn))
    · rw [List.getElem?_eq_none (by rw [l2, t.sl]; exact hn), List.getElem?_eq_none hn]
section
variable {C : Nat → Oracle} {A : SA} {x : Sx} {H : AH} {L : Ly} {nm : Nat → Nat} {G : Val}
theorem trial_spec (O : Orc C) (k : Nat) {c1 c2 : Ce} {o : Bool} {Q : Post} (h : StoreH A x H) (W : WF L x) (g : Gen L nm x G) (ht : x.trail = []) (h1 : L.cell c1) (h2 : L.cell c2)
    (hu5 : ∀ n : Nat, x.heap[n]? = some (.ref n) → n < 5) (hcheck : o = true ∨ ∃ m, Mod L x m ∧ m.of L.fn c1 = m.of L.fn c2)
    (q : ∀ H' (z : Bool), Gr A.mut H H' → StoreH A x H' → (z = true → ∃ m, Mod L x m ∧ m.of L.fn c1 = m.of L.fn c2) → (z = false → ∀ m, Mod L x m → m.of L.fn c1 ≠ m.of L.fn c2) → Q (.d (.bool z)) H') :
    C (k + 7) (.fn "trial") [.r A.s, .d c1.enc, .d c2.enc, .d (.bool o)] H Q := by
  refine intro4 O def_trial (by decide) (by decide) (by decide) (by decide) (by decide) (by decide) fun f f1 f2 f3 f4 => ?_
  tb_start
  refine mark_spec O (k + 5) h ?_
  tb_start
  refine h.set_hb fun H1 g1 h1' => ?_
  tb_start
  refine h1'.set_bb fun H2 g2 h2' => ?_
  tb_start
  have W2 : WF L { x with hb := (x.heap.length : Int), bb := (x.stack.length : Int) } := ⟨W.hl, W.sl, W.lt, W.kl, W.fnc, W.ok⟩
  have G2 : Gen L nm { x with hb := (x.heap.length : Int), bb := (x.stack.length : Int) } G := ⟨g.mod, g.un, g.lt7, g.inj, g.lo, g.gen⟩
  refine unify_spec O k h2' W2 G2 (Tr.start ht) h1 h2 hu5 W.sl rfl hcheck fun H3 x' z g3 h3 t hl hz1 hz2 => ?_
  have hlen0 : (x.trail.length : Int) = 0 := by rw [ht]; rfl
  tb_start
  rw [hlen0]
  have tin : ∀ n : Nat, (n : Int) ∈ x'.trail → x.heap[n]? = some (.ref n) := fun n hn => by
    rcases t.ent _ hn with ⟨m, e, hh, _⟩ | ⟨m, e, _⟩
    · rw [Int.ofNat.inj e]; exact hh
    · omega
  have sin : ∀ n : Nat, -1 - (n : Int) ∈ x'.trail → x.stack[n]? = some (.srf n) := fun n hn => by
    rcases t.ent _ hn with ⟨m, e, _⟩ | ⟨m, e, hh, _⟩
    · omega
    · have : n = m := by omega
      rw [this]; exact hh
  refine undo_spec O (k + 5) h3 (fun n hn => ?_) (fun n hn => ?_) fun H4 hp st g4 h4 l1 l2 p1 p2 => ?_
  · rw [hl]; exact (List.getElem?_eq_some_iff.mp (tin n hn)).1
  · rw [t.sl]; exact (List.getElem?_eq_some_iff.mp (sin n hn)).1
  obtain ⟨ehp, est⟩ := t.undone (x' := x) rfl rfl hl l1 l2 p1 p2 tin sin
  tb_start
  refine h4.set_hb fun H5 g5 h5 => ?_
  tb_start
  refine h5.set_bb fun H6 g6 h6 => ?_
  tb_start
  refine q H6 z (((((g1.tr g2).tr g3).tr g4).tr g5).tr g6) ?_ (fun e => ?_) hz2
  · rw [ehp, est, ← ht] at h6
    exact h6
  · obtain ⟨_, ⟨G', g'⟩, hh⟩ := hz1 e
    exact ⟨G', (hh G').mp g'.mod⟩
end
end
section
open PySem
noncomputable def Nf (hp : List Ce) (a : Nat) : Prop := ∃ c, hp[a]? = some c ∧ c.noFn
noncomputable def Loc (hp : List Ce) (K : List Nat) (D : Nat → T) : Ce → T → Prop
  | .ref n, .v k => n = k ∧ n < 5
  | .con n, .a k => n = k
  | .int z, .i y => z = y
  | .str b, .u t => b ∈ K ∧ hp[b]? = some (.fn 12) ∧ Nf hp (b + 1) ∧ D (b + 1) = t
  | .str b, .b false s t => b ∈ K ∧ hp[b]? = some (.fn 13) ∧ (Nf hp (b + 1) ∧ D (b + 1) = s) ∧ (Nf hp (b + 2) ∧ D (b + 2) = t)
  | .lis b, .b true s t => b ∈ K ∧ (Nf hp b ∧ D b = s) ∧ (Nf hp (b + 1) ∧ D (b + 1) = t)
  | _, _ => False
structure Grow (hp : List Ce) (K : List Nat) (D : Nat → T) (hp' : List Ce) (K' : List Nat) (D' : Nat → T) : Prop where
  fn : ∀ (b f : Nat), hp[b]? = some (.fn f) → hp'[b]? = some (.fn f)
  nf : ∀ b, Nf hp b → Nf hp' b ∧ D' b = D b
  k : ∀ b ∈ K, b ∈ K'
section
variable {hp hp' hp2 : List Ce} {K K' K2 : List Nat} {D D' D2 : Nat → T} {c : Ce} {t : T}
theorem Grow.refl : Grow hp K D hp K D := ⟨fun _ _ h => h, fun _ h => ⟨h, rfl⟩, fun _ h => h⟩
theorem Grow.trans (g : Grow hp K D hp' K' D') (g2 : Grow hp' K' D' hp2 K2 D2) : Grow hp K D hp2 K2 D2 :=
  ⟨fun b f h => g2.fn b f (g.fn b f h), fun b h => ⟨(g2.nf b (g.nf b h).1).1, by rw [(g2.nf b (g.nf b h).1).2, (g.nf b h).2]⟩, fun b h => g2.k b (g.k b h)⟩
theorem Loc.mono (g : Grow hp K D hp' K' D') (h : Loc hp K D c t) : Loc hp' K' D' c t := by
  cases c with
  | ref n => cases t <;> first | exact h | exact h.elim
  | con n => cases t <;> first | exact h | exact h.elim
  | int n => cases t <;> first | exact h | exact h.elim
  | str b =>
    cases t with
    | u t =>
      obtain ⟨h1, h2, h3, h4⟩ := h
      exact ⟨g.k _ h1, g.fn _ _ h2, (g.nf _ h3).1, by rw [(g.nf _ h3).2, h4]⟩
    | b d s t =>
      cases d with
      | true => exact h.elim
      | false =>
        obtain ⟨h1, h2, ⟨h3, h4⟩, h5, h6⟩ := h
        exact ⟨g.k _ h1, g.fn _ _ h2, ⟨(g.nf _ h3).1, by rw [(g.nf _ h3).2, h4]⟩, (g.nf _ h5).1, by rw [(g.nf _ h5).2, h6]⟩
    | _ => exact h.elim
  | lis b =>
    cases t with
    | b d s t =>
      cases d with
      | false => exact h.elim
      | true =>
        obtain ⟨h1, ⟨h3, h4⟩, h5, h6⟩ := h
        exact ⟨g.k _ h1, ⟨(g.nf _ h3).1, by rw [(g.nf _ h3).2, h4]⟩, (g.nf _ h5).1, by rw [(g.nf _ h5).2, h6]⟩
    | _ => exact h.elim
  | srf n => exact h.elim
  | fn n => exact h.elim
theorem Loc.noFn (h : Loc hp K D c t) : c.noFn := by
  cases c <;> first | trivial | exact h.elim
structure Bd (hp : List Ce) (K : List Nat) (D : Nat → T) (P : List (Nat × T)) : Prop where
  first : ∀ n, n < 5 → hp[n]? = some (.ref n) ∧ D n = .v n
  fil : ∀ a c, hp[a]? = some c → c.noFn → Loc hp K D c (D a) ∨ (a, D a) ∈ P
  pen : ∀ p ∈ P, Nf hp p.1 ∧ 5 ≤ p.1 ∧ D p.1 = p.2
  dlo : ∀ a, Nf hp a → (D a).lo 5
noncomputable def T.cmp : T → Nat
  | .u t => t.cmp + 1
  | .b _ s t => s.cmp + t.cmp + 1
  | _ => 0
noncomputable def wP (P : List (Nat × T)) : Nat := (P.map fun p => p.2.cmp).sum
theorem Bd.fill {P : List (Nat × T)} {a : Nat} (B : Bd hp K D ((a, t) :: P)) (h : Loc hp K D c t) : Bd (hp.set a c) K D P ∧ Grow hp K D (hp.set a c) K D := by
  obtain ⟨⟨c0, h0, hf0⟩, h5, hD⟩ := B.pen (a, t) List.mem_cons_self
  dsimp only at h0 hf0 h5 hD
  have hla := (List.getElem?_eq_some_iff.mp h0).1
  have hget : ∀ b, (hp.set a c)[b]? = if b = a then some c else hp[b]? := fun b => by
    rw [List.getElem?_set]
    by_cases e : a = b
    · subst e; rw [if_pos rfl, if_pos rfl, if_pos hla]
    · rw [if_neg e, if_neg (Ne.symm e)]
  have g : Grow hp K D (hp.set a c) K D := by
    refine ⟨fun b f hb => ?_, fun b hb => ⟨?_, rfl⟩, fun b hb => hb⟩
    · rw [hget]
      split
      · rename_i e; subst e; rw [h0] at hb; cases hb; exact hf0.elim
      · exact hb
    · by_cases e : b = a
      · subst e; exact ⟨c, by rw [hget, if_pos rfl], h.noFn⟩
      · obtain ⟨d, hd, hdf⟩ := hb
        exact ⟨d, by rw [hget, if_neg e]; exact hd, hdf⟩
  have back : ∀ b, Nf (hp.set a c) b → Nf hp b := fun b hb => by
    by_cases e : b = a
    · subst e; exact ⟨c0, h0, hf0⟩
    · obtain ⟨d, hd, hdf⟩ := hb
      rw [hget, if_neg e] at hd
      exact ⟨d, hd, hdf⟩
  refine ⟨⟨fun n hn => ?_, fun b d hb hbf => ?_, fun p hp' => ?_, fun b hb => B.dlo b (back b hb)⟩, g⟩
  · rw [hget, if_neg (by omega)]; exact B.first n hn
  · rw [hget] at hb
    by_cases e : b = a
    · rw [if_pos e] at hb; cases hb; subst e
      rw [hD]; exact .inl (h.mono g)
    · rw [if_neg e] at hb
      rcases B.fil b d hb hbf with hl | hm
      · exact .inl (hl.mono g)
      · rcases List.mem_cons.mp hm with hm | hm
        · exact absurd (by cases hm; rfl) e
        · exact .inr hm
  · obtain ⟨h1, h2, h3⟩ := B.pen p (List.mem_cons_of_mem _ hp')
    exact ⟨(g.nf _ h1).1, h2, h3⟩
noncomputable def flat : Nat → List T → List (Nat × T)
  | _, [] => []
  | p, t :: ts => (p, t) :: flat (p + 1) ts
theorem flat_mem {p : Nat} {ts : List T} {q : Nat × T} (h : q ∈ flat p ts) : ∃ i, ts[i]? = some q.2 ∧ q.1 = p + i := by
  induction ts generalizing p with
  | nil => cases h
  | cons t ts ih =>
    rcases List.mem_cons.mp h with rfl | h
    · exact ⟨0, rfl, rfl⟩
    · obtain ⟨i, h1, h2⟩ := ih h
      exact ⟨i + 1, h1, by omega⟩
theorem flat_get {p i : Nat} {ts : List T} {t : T} (h : ts[i]? = some t) : (p + i, t) ∈ flat p ts := by
  induction ts generalizing p i with
  | nil => simp at h
  | cons t0 ts ih =>
    cases i with
    | zero => simp at h; subst h; exact List.mem_cons_self
    | succ i =>
      have := ih (p := p + 1) (i := i) (by simpa using h)
      have e : p + 1 + i = p + (i + 1) := by omega
      rw [e] at this
      exact List.mem_cons_of_mem _ this
theorem wP_append (P R : List (Nat × T)) : wP (P ++ R) = wP P + wP R := by simp [wP]
theorem wP_flat (p : Nat) (ts : List T) : wP (flat p ts) = (ts.map T.cmp).sum := by
  induction ts generalizing p with
  | nil => rfl
  | cons t ts ih =>
    have := ih (p + 1)
    simp only [wP, flat, List.map_cons, List.sum_cons] at this ⊢
    rw [this]
theorem lo_arg {m : Nat} {t : T} (h : t.lo m) {i : Nat} {u : T} (hu : t.args[i]? = some u) : u.lo m := args_lo h _ (List.mem_of_getElem? hu)
theorem fresh_get {n k i : Nat} (h : i < k) : (fresh n k)[i]? = some (.ref (n + i)) := by
  simp [fresh, List.getElem?_range h]
theorem fresh_len (n k : Nat) : (fresh n k).length = k := by simp [fresh]
theorem Bd.alloc {P : List (Nat × T)} (B : Bd hp K D P) (ht : t.lo 5) {blk : List Ce} {p b : Nat} (hb : hp.length ≤ b) (hbp : p = hp.length + (blk.length - t.args.length)) (hpl : 5 ≤ hp.length) (hal : t.args.length ≤ blk.length)
    (hblk : ∀ i d, blk[i]? = some d → (i < blk.length - t.args.length ∧ ¬ d.noFn) ∨ (blk.length - t.args.length ≤ i ∧ d.noFn)) :
    Bd (hp ++ blk) (K ++ [b]) (fun a => if a < hp.length then D a else (t.args[a - p]?).getD (.a 0)) (P ++ flat p t.args) ∧ Grow hp K D (hp ++ blk) (K ++ [b]) (fun a => if a < hp.length then D a else (t.args[a - p]?).getD (.a 0)) ∧
    ∀ i u, t.args[i]? = some u → Nf (hp ++ blk) (p + i) ∧ (if p + i < hp.length then D (p + i) else (t.args[p + i - p]?).getD (.a 0)) = u := by
  have hl : ∀ a, a < hp.length → (hp ++ blk)[a]? = hp[a]? := fun a ha => List.getElem?_append_left ha
  have hin : ∀ a, Nf hp a → a < hp.length := fun a ⟨d, hd, _⟩ => (List.getElem?_eq_some_iff.mp hd).1
  have hr : ∀ a, hp.length ≤ a → (hp ++ blk)[a]? = blk[a - hp.length]? := fun a ha => List.getElem?_append_right ha
  have g : Grow hp K D (hp ++ blk) (K ++ [b]) (fun a => if a < hp.length then D a else (t.args[a - p]?).getD (.a 0)) := by
    refine ⟨fun a f ha => ?_, fun a ha => ⟨?_, ?_⟩, fun a ha => by simp [ha]⟩
    · rw [hl a (List.getElem?_eq_some_iff.mp ha).1]; exact ha
    · obtain ⟨d, hd, hdf⟩ := ha
      exact ⟨d, by rw [hl a (List.getElem?_eq_some_iff.mp hd).1]; exact hd, hdf⟩
    · show (if a < hp.length then _ else _) = _
      rw [if_pos (hin a ha)]
  obtain ⟨o, ho⟩ := Nat.le.dest hal
  rw [show blk.length - t.args.length = o by rw [← ho, Nat.add_sub_cancel_left]] at hblk hbp
  have le1 : ∀ j, hp.length ≤ p + j := fun j => by rw [hbp]; exact Nat.le_trans (Nat.le_add_right _ _) (Nat.le_add_right _ _)
  have sub1 : ∀ j, p + j - hp.length = o + j := fun j => by rw [hbp, Nat.add_assoc, Nat.add_sub_cancel_left]
  have new : ∀ i u, t.args[i]? = some u → Nf (hp ++ blk) (p + i) ∧ (if p + i < hp.length then D (p + i) else (t.args[p + i - p]?).getD (.a 0)) = u := fun i u hu => by
    have hi := (List.getElem?_eq_some_iff.mp hu).1
    refine ⟨?_, ?_⟩
    · have hlt : o + i < blk.length := by rw [← ho, Nat.add_comm]; exact Nat.add_lt_add_right hi o
      refine ⟨blk[o + i], by rw [hr _ (le1 i), sub1, List.getElem?_eq_getElem hlt], ?_⟩
      rcases hblk _ _ (List.getElem?_eq_getElem hlt) with ⟨h1, _⟩ | ⟨_, h2⟩
      · exact absurd h1 (Nat.not_lt.mpr (Nat.le_add_right ..))
      · exact h2
    · rw [if_neg (Nat.not_lt.mpr (le1 i)), Nat.add_sub_cancel_left, hu]; rfl
  refine ⟨⟨fun n hn => ?_, fun a d ha hdf => ?_, fun q hq => ?_, fun a ha => ?_⟩, g, new⟩
  · try dsimp only
    have hn5 := Nat.lt_of_lt_of_le hn hpl
    rw [hl n hn5, if_pos hn5]; exact B.first n hn
  · rcases Nat.lt_or_ge a hp.length with h | h
    · rw [hl a h] at ha
      try dsimp only
      rw [if_pos h]
      rcases B.fil a d ha hdf with hh | hh
      · exact .inl (hh.mono g)
      · exact .inr (by simp [hh])
    · rw [hr a h] at ha
      rcases hblk _ _ ha with ⟨_, h2⟩ | ⟨h1, _⟩
      · exact absurd hdf h2
      · have hlt := (List.getElem?_eq_some_iff.mp ha).1
        obtain ⟨q, rfl⟩ := Nat.le.dest h
        rw [Nat.add_sub_cancel_left] at h1 hlt
        obtain ⟨j, rfl⟩ := Nat.le.dest h1
        rw [← ho, Nat.add_comm] at hlt
        have e1 : hp.length + (o + j) = p + j := by rw [hbp, Nat.add_assoc]
        rw [e1]
        have hai : p + j - p < t.args.length := by rw [Nat.add_sub_cancel_left]; exact Nat.lt_of_add_lt_add_right hlt
        have hu := List.getElem?_eq_getElem hai
        have := (new _ _ hu).2
        have e : p + (p + j - p) = p + j := by rw [Nat.add_sub_cancel_left]
        rw [e] at this
        try dsimp only
        rw [this]
        have hm := flat_get (p := p) hu
        rw [e] at hm
        exact .inr (List.mem_append_right _ hm)
  · rcases List.mem_append.mp hq with hq | hq
    · obtain ⟨h1, h2, h3⟩ := B.pen q hq
      refine ⟨(g.nf _ h1).1, h2, ?_⟩
      rw [(g.nf _ h1).2, h3]
    · obtain ⟨i, h1, h2⟩ := flat_mem hq
      have := new i _ h1
      rw [← h2] at this
      exact ⟨this.1, by
        show 5 ≤ q.1
        rw [h2]; exact Nat.le_trans hpl (le1 i), this.2⟩
  · rcases Nat.lt_or_ge a hp.length with h | h
    · try dsimp only
      rw [if_pos h]
      obtain ⟨d, hd, hdf⟩ := ha
      rw [hl a h] at hd
      exact B.dlo a ⟨d, hd, hdf⟩
    · try dsimp only
      rw [if_neg (Nat.not_lt.mpr h)]
      cases hu : t.args[a - p]? with
      | none => exact trivial
      | some u => exact lo_arg ht hu
theorem Bd.len5 {P : List (Nat × T)} (B : Bd hp K D P) : 5 ≤ hp.length := by
  exact (List.getElem?_eq_some_iff.mp (B.first 4 (by decide)).1).1
theorem Bd.alloc_lis {P : List (Nat × T)} {s u : T} (B : Bd hp K D P) (ht : (T.b true s u).lo 5) :
    ∃ D', Bd (hp ++ fresh hp.length 2) (K ++ [hp.length]) D' (P ++ flat hp.length [s, u]) ∧ Grow hp K D (hp ++ fresh hp.length 2) (K ++ [hp.length]) D' ∧ Loc (hp ++ fresh hp.length 2) (K ++ [hp.length]) D' (.lis hp.length) (.b true s u) := by
  obtain ⟨h1, h2, h3⟩ := B.alloc ht (blk := fresh hp.length 2) (p := hp.length) (b := hp.length) (Nat.le_refl _) (by simp [fresh_len, T.args]) B.len5 (by simp [fresh_len, T.args]) (fun i d hd => by
    have hi := (List.getElem?_eq_some_iff.mp hd).1
    rw [fresh_len] at hi
    rw [fresh_get hi] at hd
    cases hd
    exact .inr ⟨by simp [fresh_len, T.args], trivial⟩)
  exact ⟨_, h1, h2, by simp, h3 0 s rfl, h3 1 u rfl⟩
theorem Bd.alloc_u {P : List (Nat × T)} {s : T} (B : Bd hp K D P) (ht : (T.u s).lo 5) :
    ∃ D', Bd (hp ++ .fn 12 :: fresh (hp.length + 1) 1) (K ++ [hp.length]) D' (P ++ flat (hp.length + 1) [s]) ∧ Grow hp K D (hp ++ .fn 12 :: fresh (hp.length + 1) 1) (K ++ [hp.length]) D' ∧ Loc (hp ++ .fn 12 :: fresh (hp.length + 1) 1) (K ++ [hp.length]) D' (.str hp.length) (.u s) := by
  obtain ⟨h1, h2, h3⟩ := B.alloc ht (blk := .fn 12 :: fresh (hp.length + 1) 1) (p := hp.length + 1) (b := hp.length) (Nat.le_refl _) (by simp [fresh_len, T.args]) B.len5 (by simp [fresh_len, T.args]) (fun i d hd => by
    cases i with
    | zero => cases hd; exact .inl ⟨by simp [fresh_len, T.args], fun z => z⟩
    | succ i =>
      have hi := (List.getElem?_eq_some_iff.mp hd).1
      rw [List.getElem?_cons_succ] at hd
      rw [List.length_cons, fresh_len] at hi
      rw [fresh_get (by omega)] at hd
      cases hd
      exact .inr ⟨by simp [fresh_len, T.args], trivial⟩)
  exact ⟨_, h1, h2, by simp, by rw [List.getElem?_append_right (Nat.le_refl _), Nat.sub_self]; rfl, h3 0 s rfl⟩
theorem Bd.alloc_b {P : List (Nat × T)} {s u : T} (B : Bd hp K D P) (ht : (T.b false s u).lo 5) :
    ∃ D', Bd (hp ++ .fn 13 :: fresh (hp.length + 1) 2) (K ++ [hp.length]) D' (P ++ flat (hp.length + 1) [s, u]) ∧ Grow hp K D (hp ++ .fn 13 :: fresh (hp.length + 1) 2) (K ++ [hp.length]) D' ∧ Loc (hp ++ .fn 13 :: fresh (hp.length + 1) 2) (K ++ [hp.length]) D' (.str hp.length) (.b false s u) := by
  obtain ⟨h1, h2, h3⟩ := B.alloc ht (blk := .fn 13 :: fresh (hp.length + 1) 2) (p := hp.length + 1) (b := hp.length) (Nat.le_refl _) (by simp [fresh_len, T.args]) B.len5 (by simp [fresh_len, T.args]) (fun i d hd => by
    cases i with
    | zero => cases hd; exact .inl ⟨by simp [fresh_len, T.args], fun z => z⟩
    | succ i =>
      have hi := (List.getElem?_eq_some_iff.mp hd).1
      rw [List.getElem?_cons_succ] at hd
      rw [List.length_cons, fresh_len] at hi
      rw [fresh_get (by omega)] at hd
      cases hd
      exact .inr ⟨by simp [fresh_len, T.args], trivial⟩)
  exact ⟨_, h1, h2, by simp, by rw [List.getElem?_append_right (Nat.le_refl _), Nat.sub_self]; rfl, h3 0 s rfl, h3 1 u rfl⟩
end
end
section
open PySem PySem.W PyProof.Rows
noncomputable def encW (e : Nat × List T) : Dt := .tup [.int (e.1 : Int), .tup (encs e.2)]
noncomputable def flats (l : List (Nat × List T)) : List (Nat × T) := l.flatMap fun e => flat e.1 e.2
theorem flats_snoc (l : List (Nat × List T)) (e : Nat × List T) : flats (l ++ [e]) = flats l ++ flat e.1 e.2 := by unfold flats; rw [List.flatMap_append, List.flatMap_singleton]
theorem mark_s {t : T} {P : T → Prop} (h : t.mark = "s") (p1 : ∀ s, P (.u s)) (p2 : ∀ d s u, P (.b d s u)) : P t := by
  cases t with
  | u s => exact p1 s
  | b d s u => exact p2 d s u
  | v n => exact absurd (show "v" = "s" from h) (by decide)
  | a n => exact absurd (show "a" = "s" from h) (by decide)
  | i n => exact absurd (show "i" = "s" from h) (by decide)
theorem cmp_args {t : T} (h : t.mark = "s") : t.cmp = (t.args.map T.cmp).sum + 1 :=
  mark_s (P := fun t => t.cmp = (t.args.map T.cmp).sum + 1) h (fun _ => rfl) fun d s u => by show s.cmp + u.cmp + 1 = s.cmp + (u.cmp + 0) + 1; rfl
section
variable {C : Nat → Oracle} {A : SA} {x : Sx} {H : AH}
theorem new_block_term (O : Orc C) (k : Nat) {K : List Nat} {D : Nat → T} {P : List (Nat × T)} {t : T} {Q : Post} (h : StoreH A x H) (B : Bd x.heap K D P) (ht : t.lo 5) (hm : t.mark = "s") (hl : x.heap.length < 10000)
    (q : ∀ H' hp' K' D' c, Gr A.mut H H' → StoreH A { x with heap := hp' } H' → Bd hp' K' D' (P ++ flat c.base t.args) → Grow x.heap K D hp' K' D' → Loc hp' K' D' c t → (c.tag = 2 ∨ c.tag = 3) → K'.length = K.length + 1 → hp'.length ≤ x.heap.length + 3 → Q (.d c.enc) H') :
    C (k + 2) (.me .store "new_block") [.r A.s, .d (.int t.fnum)] H Q := by
  cases t with
  | u s =>
    obtain ⟨D', b, g, l⟩ := B.alloc_u ht
    exact new_block_str O k (f := 12) (w := 1) h hl (.inl ⟨rfl, rfl⟩) fun H' g' h' => q H' _ _ D' _ g' h' b g l (.inl rfl) List.length_append (by rw [List.length_append, List.length_cons, fresh_len]; omega)
  | b d s u =>
    cases d with
    | true =>
      obtain ⟨D', b, g, l⟩ := B.alloc_lis ht
      exact new_block_lis O k h hl fun H' g' h' => q H' _ _ D' _ g' h' b g l (.inr rfl) List.length_append (by rw [List.length_append, fresh_len]; omega)
    | false =>
      obtain ⟨D', b, g, l⟩ := B.alloc_b ht
      exact new_block_str O k (f := 13) (w := 2) h hl (.inr ⟨rfl, rfl⟩) fun H' g' h' => q H' _ _ D' _ g' h' b g l (.inl rfl) List.length_append (by rw [List.length_append, List.length_cons, fresh_len]; omega)
  | v n => exact absurd (show "v" = "s" from hm) (by decide)
  | a n => exact absurd (show "a" = "s" from hm) (by decide)
  | i n => exact absurd (show "i" = "s" from hm) (by decide)
structure PS (A : SA) (x : Sx) (K0 : List Nat) (D0 : Nat → T) (N hN : Nat) (w : Addr) (H2 H' : AH) (c0 : Ce) (t0 : T) (P : List (Nat × T)) (Wt : List (Nat × List T)) (hp : List Ce) (K : List Nat) (D : Nat → T) : Prop where
  gr : Gr (w :: A.mut) H2 H'
  st : StoreH A { x with heap := hp } H'
  hw : H' w = some (.lst (Wt.map encW))
  bd : Bd hp K D P
  gw : Grow x.heap K0 D0 hp K D
  kl : K.length + wP P ≤ K0.length + N
  hl : hp.length + 3 * wP P ≤ x.heap.length + hN
  lo : ∀ e ∈ Wt, ∀ u ∈ e.2, u.lo 5
  l0 : Loc hp K D c0 t0
theorem PS.fill {K0 : List Nat} {D0 : Nat → T} {N hN : Nat} {w : Addr} {H2 H' H1 : AH} {c0 : Ce} {t0 : T} {P : List (Nat × T)} {Wt : List (Nat × List T)} {hp : List Ce} {K : List Nat} {D : Nat → T} {a : Nat} {u : T} {c : Ce}
    (S : PS A x K0 D0 N hN w H2 H' c0 t0 ((a, u) :: P) Wt hp K D) (hwA : w ∉ A.all) (hc : u.cmp = 0) (hL : Loc hp K D c u) (g1 : Gr A.mut H' H1) (h1 : StoreH A { x with heap := hp.set a c } H1) : PS A x K0 D0 N hN w H2 H1 c0 t0 P Wt (hp.set a c) K D := by
  obtain ⟨b, g⟩ := S.bd.fill hL
  have hk := S.kl
  have hl := S.hl
  have hw0 : wP ((a, u) :: P) = wP P := by show u.cmp + wP P = _; rw [hc, Nat.zero_add]
  rw [hw0] at hk hl
  exact ⟨S.gr.tr (g1.up fun y hy => .tail _ hy), h1, g1 w _ (fun hm => hwA (SA.mut_sub hm)) S.hw, b, S.gw.trans g, hk, by rw [List.length_set]; exact hl, S.lo, S.l0.mono g⟩
theorem PS.place {K0 : List Nat} {D0 : Nat → T} {N hN : Nat} {w : Addr} {H2 H' : AH} {c0 : Ce} {t0 : T} {P : List (Nat × T)} {Wt : List (Nat × List T)} {hp : List Ce} {K : List Nat} {D : Nat → T} {a : Nat} {u : T}
    (S : PS A x K0 D0 N hN w H2 H' c0 t0 ((a, u) :: P) Wt hp K D) : a < hp.length := by
  obtain ⟨⟨c, h, _⟩, _, _⟩ := S.bd.pen (a, u) List.mem_cons_self
  exact (List.getElem?_eq_some_iff.mp h).1
inductive PF (A : SA) (tb w : Addr) (c0 : Ce) (z : Int) (f : Frm) : Prop
  | mk (f1 : f "self" = some (.r A.s)) (f2 : f "table" = some (.r tb)) (f3 : f "waiting" = some (.r w)) (f4 : f "at" = some (.d (.int z))) (f5 : f "made" = some (.d c0.enc)) : PF A tb w c0 z f
noncomputable abbrev itemS : List IS := [
      .asg (.one "kind") (.sub (.loc "item") (.con (.int 0))),
      .ife (.cmp .Eq (.loc "kind") (.con (.str "v"))) [
        .ife (.cmp .In (.sub (.loc "item") (.con (.int 1))) (.loc "table")) [
          .ssub (.att (.loc "self") "heap") (.loc "place") (.sub (.loc "table") (.sub (.loc "item") (.con (.int 1))))] [
          .ssub (.loc "table") (.sub (.loc "item") (.con (.int 1))) (.tup [(.con (.int 0)), (.loc "place")])]] [
        .ife (.cmp .Eq (.loc "kind") (.con (.str "a"))) [
          .ssub (.att (.loc "self") "heap") (.loc "place") (.tup [(.con (.int 4)), (.sub (.loc "item") (.con (.int 1)))])] [
          .ife (.cmp .Eq (.loc "kind") (.con (.str "i"))) [
            .ssub (.att (.loc "self") "heap") (.loc "place") (.tup [(.con (.int 5)), (.sub (.loc "item") (.con (.int 1)))])] [
            .asg (.one "inner") (.met .store (.loc "self") "new_block" [(.sub (.loc "item") (.con (.int 1)))]),
            .ssub (.att (.loc "self") "heap") (.loc "place") (.loc "inner"),
            .exp (.mb (.loc "waiting") "append" [(.tup [(.met .store (.loc "self") "base" [(.loc "inner")]), (.sub (.loc "item") (.con (.int 2)))])])]]],
      .aug "place" .Add (.con (.int 1))]
theorem item_ar {k p c : Nat} : k + 1 + (p + c) = k + (c + 1 + p) := by omega
theorem item_ar2 {a b p c : Nat} (h : a ≤ b + 3) : a + 3 * (p + c) ≤ b + 3 * (c + 1 + p) := by omega
theorem put_item (O : Orc C) (k : Nat) {K0 : List Nat} {D0 : Nat → T} {N hN : Nat} {w tb : Addr} {tbl : List (Int × Dt)} {H2 H' : AH} {c0 : Ce} {t0 : T} {P : List (Nat × T)} {Wt : List (Nat × List T)} {hp : List Ce} {K : List Nat} {D : Nat → T} {a : Nat} {z : Int} {u : T} {f : Frm} {R : SPost}
    (S : PS A x K0 D0 N hN w H2 H' c0 t0 ((a, u) :: P) Wt hp K D) (hwA : w ∉ A.all) (hu : u.lo 5) (ht : H' tb = some (.di tbl)) (htab : ∀ n : Nat, n < 5 → lookK (n : Int) tbl = some (Ce.ref n).enc) (hlen : hp.length < 5000) (hWl : Wt.length < 1000)
    (F : PF A tb w c0 z f) (f6 : f "place" = some (.d (.int (a : Int)))) (f7 : f "item" = some (.d u.enc))
    (r : ∀ f' H'' Wt' P' hp' K' D', PF A tb w c0 z f' → f' "place" = some (.d (.int ((a : Int) + 1))) → PS A x K0 D0 N hN w H2 H'' c0 t0 P' Wt' hp' K' D' →
      ((u.mark ≠ "s" ∧ P' = P ∧ Wt' = Wt) ∨ (u.mark = "s" ∧ ∃ b : Nat, P' = P ++ flat b u.args ∧ Wt' = Wt ++ [(b, u.args)])) → R .next f' H'') :
    Wxs (C (k + 3)) itemS f H' R := by
  have hst := S.st
  have ha := S.place
  obtain ⟨f1, f2, f3, f4, f5⟩ := F
  tb_start
  by_cases hm : u.mark = "s"
  · refine ifDF (by rw [hm]; decide) ?_
    tb_start
    refine ifDF (by rw [hm]; decide) ?_
    tb_start
    refine ifDF (by rw [hm]; decide) ?_
    tb_start
    refine new_block_term O (k + 1) hst S.bd hu hm (Nat.lt_trans hlen (by decide)) fun H1 hp1 K1 D1 c g1 h1 b1 gr1 l1 ct kl1 hl1 => ?_
    have hwM : w ∉ A.mut := fun hm => hwA (SA.mut_sub hm)
    have hw1 := g1 w _ hwM S.hw
    have hgl := (List.getElem?_eq_some_iff.mp (Classical.choose_spec (gr1.nf a (S.bd.pen (a, u) List.mem_cons_self).1).1).1).1
    obtain ⟨b2, gr2⟩ := b1.fill l1
    tb_start
    refine setH h1 hgl fun H3 g3 h3 => ?_
    have hw3 := g3 w _ hwM hw1
    tb_start
    refine base_spec O (k + 2) ct ?_
    tb_start
    have hwp1 : wP ((a, u) :: P) = u.cmp + wP P := rfl
    have hwp2 : wP (P ++ flat c.base u.args) = wP P + (u.args.map T.cmp).sum := by rw [wP_append, wP_flat]
    have hcw := cmp_args hm
    have hk := S.kl
    have hh := S.hl
    refine appOf hw3 (by rw [List.length_map]; exact Nat.lt_trans hWl (by decide)) ?_
    tb_start
    refine r _ _ (Wt ++ [(c.base, u.args)]) (P ++ flat c.base u.args) _ K1 D1 ⟨by k_caught0, by k_caught0, by k_caught0, by k_caught0, by k_caught0⟩ (by k_caught0) ⟨((S.gr.tr ((g1.tr g3).up fun y hy => .tail _ hy)).tr (gr_mem (.head _))), h3.other hwA, ?_, b2, (S.gw.trans gr1).trans gr2, ?_, ?_, fun e he v hv => ?_, (S.l0.mono gr1).mono gr2⟩ (.inr ⟨hm, c.base, rfl, rfl⟩)
    · rw [set_at, List.map_append]; rfl
    · rw [kl1, hwp2]; rw [hwp1, hcw] at hk; exact Nat.le_trans (Nat.le_of_eq item_ar) hk
    · rw [List.length_set, hwp2]; rw [hwp1, hcw] at hh; exact Nat.le_trans (item_ar2 hl1) hh
    · rcases mem_snoc.mp he with he | rfl
      · exact S.lo e he v hv
      · exact args_lo hu _ hv
  cases u with
  | v n =>
    refine ifDT rfl ?_
    tb_start
    refine inDi ht (fun d hd => ?_) (fun hd => by rw [show lookK (T.v n).fnum tbl = _ from htab n hu] at hd; cases hd)
    tb_start
    refine subDi ht (htab n hu) ?_
    tb_start
    refine setH (v := .ref n) hst ha fun H1 g1 h1 => ?_
    tb_start
    exact r _ _ Wt P _ K D ⟨by k_caught0, by k_caught0, by k_caught0, by k_caught0, by k_caught0⟩ (by k_caught0) (S.fill (c := .ref n) hwA rfl ⟨rfl, hu⟩ g1 h1) (.inl ⟨hm, rfl, rfl⟩)
  | a n =>
    refine ifDF (by show ¬ ("a" = "v"); decide) ?_
    tb_start
    refine ifDT rfl ?_
    tb_start
    refine setH (v := .con n) hst ha fun H1 g1 h1 => ?_
    tb_start
    exact r _ _ Wt P _ K D ⟨by k_caught0, by k_caught0, by k_caught0, by k_caught0, by k_caught0⟩ (by k_caught0) (S.fill (c := .con n) hwA rfl rfl g1 h1) (.inl ⟨hm, rfl, rfl⟩)
  | i n =>
    refine ifDF (by show ¬ ("i" = "v"); decide) ?_
    tb_start
    refine ifDF (by show ¬ ("i" = "a"); decide) ?_
    tb_start
    refine ifDT rfl ?_
    tb_start
    refine setH (v := .int n) hst ha fun H1 g1 h1 => ?_
    tb_start
    exact r _ _ Wt P _ K D ⟨by k_caught0, by k_caught0, by k_caught0, by k_caught0, by k_caught0⟩ (by k_caught0) (S.fill (c := .int n) hwA rfl rfl g1 h1) (.inl ⟨hm, rfl, rfl⟩)
  | _ => exact absurd rfl hm
end
theorem flat_cons (p : Nat) (t : T) (ts : List T) : flat p (t :: ts) = (p, t) :: flat (p + 1) ts := rfl
theorem flats_cons (e : Nat × List T) (l : List (Nat × List T)) : flats (e :: l) = flat e.1 e.2 ++ flats l := rfl
theorem encs_get (ts : List T) (i : Nat) : (encs ts)[i]? = (ts[i]?).map T.enc := List.getElem?_map ..
section
variable {C : Nat → Oracle} {A : SA} {x : Sx} {H : AH}
theorem put_ar {a b c d m : Nat} (h : d + 1 + a + b + c = m) : a + (b + d) + (c + 1) = m := by omega
inductive PLI (A : SA) (x : Sx) (K0 : List Nat) (D0 : Nat → T) (N hN : Nat) (w tb : Addr) (H2 : AH) (c0 : Ce) (t0 : T) (n : Nat) (f : Frm) (H' : AH) : Prop
  | mk {at' : Nat} {Wt : List (Nat × List T)} {hp : List Ce} {K : List Nat} {D : Nat → T} (F : PF A tb w c0 (at' : Int) f) (S : PS A x K0 D0 N hN w H2 H' c0 t0 (flats (Wt.drop at')) Wt hp K D)
    (hat : at' ≤ Wt.length) (hn : wP (flats (Wt.drop at')) + Wt.length = n + at') (h100 : n + at' ≤ 100) : PLI A x K0 D0 N hN w tb H2 c0 t0 n f H'
inductive PFI (A : SA) (x : Sx) (K0 : List Nat) (D0 : Nat → T) (N hN : Nat) (w tb : Addr) (H2 : AH) (c0 : Ce) (t0 : T) (n at' p : Nat) (items : List T) (i : Nat) (f : Frm) (H' : AH) : Prop
  | mk {Wt : List (Nat × List T)} {hp : List Ce} {K : List Nat} {D : Nat → T} (F : PF A tb w c0 ((at' : Int) + 1) f) (f6 : f "place" = some (.d (.int ((p + i : Nat) : Int))))
    (S : PS A x K0 D0 N hN w H2 H' c0 t0 (flat (p + i) (items.drop i) ++ flats (Wt.drop (at' + 1))) Wt hp K D) (hat : at' + 1 ≤ Wt.length)
    (hn : wP (flat (p + i) (items.drop i)) + wP (flats (Wt.drop (at' + 1))) + Wt.length = n + at') : PFI A x K0 D0 N hN w tb H2 c0 t0 n at' p items i f H'
set_option tactic.hygienic true in
theorem put_loop (O : Orc C) (k : Nat) {K0 : List Nat} {D0 : Nat → T} {N hN : Nat} {w tb : Addr} {tbl : List (Int × Dt)} {H2 : AH} {c0 : Ce} {t0 : T} {Wt : List (Nat × List T)} {hp : List Ce} {K : List Nat} {D : Nat → T} {f : Frm} {Q : Post}
    (S : PS A x K0 D0 N hN w H2 H2 c0 t0 (flats Wt) Wt hp K D) (hwA : w ∉ A.all) (htw : tb ∉ w :: A.mut) (ht : H2 tb = some (.di tbl)) (htab : ∀ n : Nat, n < 5 → lookK (n : Int) tbl = some (Ce.ref n).enc) (hlen : x.heap.length + hN < 4000)
    (hn : wP (flats Wt) + Wt.length ≤ 100)
    (f1 : f "self" = some (.r A.s)) (f2 : f "table" = some (.r tb)) (f3 : f "waiting" = some (.r w)) (f4 : f "at" = some (.d (.int 0))) (f5 : f "made" = some (.d c0.enc))
    (q : ∀ H' Wt' hp' K' D', PS A x K0 D0 N hN w H2 H' c0 t0 [] Wt' hp' K' D' → Q (.d c0.enc) H') :
    Wxs (C (k + 3)) [.whl (.cmp .Lt (.loc "at") (.len (.loc "waiting"))) [
    .asg (.many ["place", "items"]) (.sub (.loc "waiting") (.loc "at")),
    .aug "at" .Add (.con (.int 1)),
    .forE (.one "item") (.loc "items") itemS],
  .ret (.loc "made")] f H2 (retQ Q) := by
  refine sWhl (PLI A x K0 D0 N hN w tb H2 c0 t0) (wP (flats Wt) + Wt.length) (.mk (at' := 0) ⟨f1, f2, f3, f4, f5⟩ S (Nat.zero_le _) rfl hn) fun n f H' I => ?_
  obtain ⟨⟨f1, f2, f3, f4, f5⟩, S, hat, hn, h100⟩ := I
  rename_i at' Wt hp K D
  have hw := S.hw
  tb_start
  rw [List.length_map]
  refine ifD (fun z => ?_) (fun z => ?_)
  · have hlt : at' < Wt.length := Int.ofNat_lt.mp z
    obtain ⟨⟨p, items⟩, hW⟩ : ∃ e, Wt[at'] = e := ⟨_, rfl⟩
    have hdrop : Wt.drop at' = (p, items) :: Wt.drop (at' + 1) := by rw [List.drop_eq_getElem_cons hlt, hW]
    have hmem : (p, items) ∈ Wt := by rw [← hW]; exact List.getElem_mem hlt
    rw [hdrop, flats_cons] at S hn
    rw [wP_append] at hn
    have hlo : ∀ u ∈ items, u.lo 5 := S.lo _ hmem
    tb_start
    refine subLst (d := .tup [.int (p : Int), .tup (encs items)]) hw (by rw [List.getElem?_map, List.getElem?_eq_getElem hlt, hW]; rfl) ?_
    refine asg2Of ?_
    tb_start
    refine forTup (PFI A x K0 D0 N hN w tb H2 c0 t0 n at' p items) (.mk ⟨by k_caught0, by k_caught0, by k_caught0, by k_caught0, by k_caught0⟩ (putNe (by decide) (putNe (by decide) (putAt _ _ _))) S hlt hn) (fun i f H' d hd I => ?_) fun f H' I => ?_
    · obtain ⟨⟨f1, f2, f3, f4, f5⟩, f6, S, hat, hn⟩ := I
      rename_i Wt hp K D
      rw [encs_get] at hd
      obtain ⟨u, hu, rfl⟩ := Option.map_eq_some_iff.mp hd
      have hi := (List.getElem?_eq_some_iff.mp hu).1
      have hdi : items.drop i = u :: items.drop (i + 1) := by
        rw [List.drop_eq_getElem_cons hi]
        rw [List.getElem?_eq_getElem hi] at hu
        rw [Option.some.inj hu]
      rw [hdi, flat_cons] at S hn
      have hwc : ∀ R : List (Nat × T), wP ((p + i, u) :: R) = u.cmp + wP R := fun R => rfl
      rw [hwc] at hn
      refine put_item O k S hwA (hlo u (List.mem_of_getElem? hu)) (S.gr tb _ htw ht) htab (Nat.lt_of_le_of_lt (Nat.le_trans (Nat.le_add_right _ _) S.hl) (Nat.lt_trans hlen (by decide))) (Nat.lt_of_le_of_lt (Nat.le_trans (Nat.le_add_left _ _) (Nat.le_of_eq hn)) (Nat.lt_of_le_of_lt h100 (by decide))) ⟨by k_caught0, by k_caught0, by k_caught0, by k_caught0, by k_caught0⟩ (by k_caught0) (by k_caught0) fun f' H'' Wt' P' hp' K' D' F hpl S2 hcase => ?_
      rcases hcase with ⟨hm, rfl, rfl⟩ | ⟨hm, b, rfl, rfl⟩
      · have h0 : u.cmp = 0 := by cases u <;> first | rfl | exact absurd rfl hm
        rw [h0, Nat.zero_add] at hn
        exact ⟨F, hpl, S2, hat, hn⟩
      · have hd : (Wt ++ [(b, u.args)]).drop (at' + 1) = Wt.drop (at' + 1) ++ [(b, u.args)] := List.drop_append_of_le_length hat
        have hcw := cmp_args hm
        refine .mk F hpl (Wt := Wt ++ [(b, u.args)]) (hp := hp') (K := K') (D := D') ?_ ?_ ?_
        · rw [hd, flats_snoc, ← List.append_assoc]; exact S2
        · rw [List.length_append]; exact Nat.le_trans hat (Nat.le_add_right _ _)
        · rw [hd, flats_snoc, wP_append, wP_flat b u.args, List.length_append, List.length_singleton]
          rw [hcw] at hn
          exact put_ar hn
    · obtain ⟨F, f6, S, hat, hn⟩ := I
      rename_i Wt hp K D
      have hl : items.drop (encs items).length = [] := List.drop_eq_nil_of_le (Nat.le_of_eq (List.length_map ..).symm)
      rw [hl] at S hn
      have e0 : wP (flat (p + (encs items).length) []) = 0 := rfl
      rw [e0, Nat.zero_add] at hn
      obtain ⟨n', rfl⟩ : ∃ n', n = n' + 1 := Nat.exists_eq_succ_of_ne_zero fun e => by
        rw [e, Nat.zero_add] at hn
        exact absurd hat (Nat.not_le.mpr (Nat.lt_succ_of_le (Nat.le_trans (Nat.le_add_left _ _) (Nat.le_of_eq hn))))
      have e1 := Nat.add_right_comm n' 1 at'
      exact ⟨n', Nat.lt_succ_self _, .mk (at' := at' + 1) F S hat (hn.trans e1) (e1 ▸ h100)⟩
  · have hd : Wt.drop at' = [] := List.drop_eq_nil_of_le (Int.ofNat_le.mp (Int.not_lt.mp z))
    rw [hd] at S
    tb_start
    exact q H' Wt hp K D S
end
section
variable {C : Nat → Oracle} {A : SA} {x : Sx} {H : AH}
inductive PTI (A : SA) (t : T) (tb : Addr) (H1 : AH) (i : Nat) (f : Frm) (H' : AH) : Prop
  | mk (f1 : f "self" = some (.r A.s)) (f2 : f "term" = some (.d t.enc)) (f3 : f "table" = some (.r tb)) (e : H' = H1) : PTI A t tb H1 i f H'
theorem put_term_spec (O : Orc C) (k : Nat) {t : T} {K : List Nat} {D : Nat → T} {tb : Addr} {tbl : List (Int × Dt)} {Q : Post} (h : StoreH A x H) (B : Bd x.heap K D []) (hlo : t.lo 5) (hc : t.cmp ≤ 7) (hl : x.heap.length ≤ 1000) (htb : H tb = some (.di tbl)) (htA : tb ∉ A.all)
    (htab : ∀ n : Nat, n < 5 → lookK (n : Int) tbl = some (Ce.ref n).enc) (hkeys : ∀ e ∈ tbl, ∃ n : Nat, n < 5 ∧ e.1 = (n : Int))
    (q : ∀ H' hp' K' D' c, Gr A.mut H H' → StoreH A { x with heap := hp' } H' → Bd hp' K' D' [] → Grow x.heap K D hp' K' D' → Loc hp' K' D' c t → K'.length ≤ K.length + t.cmp → hp'.length ≤ x.heap.length + 3 * t.cmp → Q (.d c.enc) H') :
    C (k + 4) (.me .store "put_term") [.r A.s, .d t.enc, .r tb] H Q := by
  refine intro3 O def_put_term (by decide) (by decide) (by decide) fun f f1 f2 f3 => ?_
  tb_start
  refine .di htb fun a ha => ?_
  have htb1 := keep_new (o' := .lst (tbl.map fun e => .int e.1)) htb ha
  have h1 := h.new (o := .lst (tbl.map fun e => .int e.1)) ha
  have ha1 := set_at H a (.lst (tbl.map fun e => .int e.1))
  have g1 : Gr [] H (H.set a (.lst (tbl.map fun e => .int e.1))) := Gr.new ha
  generalize H.set a (.lst (tbl.map fun e => .int e.1)) = H1 at htb1 h1 ha1 g1 ⊢
  refine forLst ha1 (PTI A t tb H1) ⟨f1, f2, f3, rfl⟩ (fun i f H' d hd I => ?_) (fun f H' I => ?_)
  · obtain ⟨f1, f2, f3, rfl⟩ := I
    rw [List.getElem?_map] at hd
    obtain ⟨e, he, rfl⟩ := Option.map_eq_some_iff.mp hd
    obtain ⟨n, hn, en⟩ := hkeys e (List.mem_of_getElem? he)
    refine ⟨ha1, ?_⟩
    tb_start
    refine subDi htb1 (by rw [en]; exact htab n hn) ?_
    tb_start
    refine subOf (sub_tag _ _) ?_
    tb_start
    refine ifDF (by show ¬ ((0 : Int) = 1); decide) ?_
    tb_start
    exact ⟨by k_caught0, by k_caught0, by k_caught0, rfl⟩
  obtain ⟨f1, f2, f3, rfl⟩ := I
  refine ⟨ha1, ?_⟩
  have now : ∀ (c : Ce), Loc x.heap K D c t → Q (.d c.enc) H' := fun c hL => q H' x.heap K D c g1.up0 h1 B Grow.refl hL (Nat.le_add_right _ _) (Nat.le_add_right _ _)
  tb_start
  by_cases hm : t.mark = "s"
  · refine ifDF (by rw [hm]; decide) ?_
    tb_start
    refine ifDF (by rw [hm]; decide) ?_
    tb_start
    refine ifDF (by rw [hm]; decide) ?_
    tb_start
    refine new_block_term O (k + 1) h1 B hlo hm (Nat.lt_of_le_of_lt hl (by decide)) fun H2 hp2 K2 D2 c g2 h2 b2 gr2 l2 ct kl2 hl2 => ?_
    tb_start
    refine base_spec O (k + 2) ct ?_
    tb_start
    intro w hw
    have hwA : w ∉ A.all := h2.ne hw
    have hwn : H w = none := g1.back (g2.back hw fun hm => hwA (SA.mut_sub hm)) fun z => (nomatch z)
    have htM : tb ∉ A.mut := fun hm => htA (SA.mut_sub hm)
    have htb2 := g2 tb _ htM htb1
    have htw : tb ≠ w := ne_new htb2 hw
    have hcw := cmp_args hm
    have hf0 : flats [(c.base, t.args)] = flat c.base t.args := List.append_nil _
    have S : PS A x K D t.cmp (3 * t.cmp) w (H2.set w (.lst [encW (c.base, t.args)])) (H2.set w (.lst [encW (c.base, t.args)])) c t (flats [(c.base, t.args)]) [(c.base, t.args)] hp2 K2 D2 :=
      ⟨Gr.refl _ _, h2.new hw, set_at _ _ _, by rw [hf0]; exact b2, gr2, by rw [hf0, wP_flat]; omega, by rw [hf0, wP_flat]; omega, fun e he v hv => by
        rw [List.mem_singleton.mp he] at hv
        exact args_lo hlo _ hv, l2⟩
    have htb3 : (H2.set w (.lst [encW (c.base, t.args)])) tb = some (.di tbl) := by rw [set_ne _ _ htw]; exact htb2
    have gH3 : Gr A.mut H (H2.set w (.lst [encW (c.base, t.args)])) := (g1.up0.tr g2).tr (Gr.new hw).up0
    show Wxs _ _ _ (H2.set w (.lst [encW (c.base, t.args)])) _
    generalize H2.set w (.lst [encW (c.base, t.args)]) = H3 at S htb3 gH3 ⊢
    refine sAsg (eCon ?_)
    refine put_loop O k S hwA (fun z => (List.mem_cons.mp z).elim htw htM) htb3 htab (by omega) (by rw [hf0, wP_flat]; show _ + 1 ≤ 100; omega) (by k_caught0) (by k_caught0) (by k_caught0) (by k_caught0) (by k_caught0) fun H4 Wt4 hp4 K4 D4 S4 => ?_
    have k4 := S4.kl
    have l4 := S4.hl
    exact q H4 hp4 K4 D4 c (gH3.trans S4.gr fun y hy => by
      rcases List.mem_cons.mp hy with rfl | hy
      · exact .inr hwn
      · exact .inl hy) S4.st S4.bd S4.gw S4.l0 k4 l4
  cases t with
  | v n =>
    refine ifDT rfl ?_
    tb_start
    refine ninDi htb1 (fun hd => by rw [show lookK (T.v n).fnum tbl = _ from htab n hlo] at hd; cases hd) (fun d hd => ?_)
    tb_start
    refine subDi htb1 (htab n hlo) ?_
    tb_start
    exact now (.ref n) ⟨rfl, hlo⟩
  | a n =>
    refine ifDF (by show ¬ ("a" = "v"); decide) ?_
    tb_start
    refine ifDT rfl ?_
    tb_start
    exact now (.con n) rfl
  | i n =>
    refine ifDF (by show ¬ ("i" = "v"); decide) ?_
    tb_start
    refine ifDF (by show ¬ ("i" = "a"); decide) ?_
    tb_start
    refine ifDT rfl ?_
    tb_start
    exact now (.int n) rfl
  | _ => exact absurd rfl hm
noncomputable def Side (hp : List Ce) (K : List Nat) (D : Nat → T) (c : Ce) (t : T) : Prop := Loc hp K D c t ∨ ∃ n, n < 2 ∧ c = .srf n ∧ t = .v (5 + n)
theorem Side.mono {hp hp' : List Ce} {K K' : List Nat} {D D' : Nat → T} {c : Ce} {t : T} (g : Grow hp K D hp' K' D') (h : Side hp K D c t) : Side hp' K' D' c t := by
  rcases h with h | h
  · exact .inl (h.mono g)
  · exact .inr h
theorem cmp_dep (t : T) : t.cmp + 1 ≤ 2 ^ t.dep := by
  induction t with
  | v n => exact (Nat.le_refl 1 : 0 + 1 ≤ 2 ^ 0)
  | a n => exact (Nat.le_refl 1 : 0 + 1 ≤ 2 ^ 0)
  | i n => exact (Nat.le_refl 1 : 0 + 1 ≤ 2 ^ 0)
  | u t ih =>
    show t.cmp + 1 + 1 ≤ 2 ^ (t.dep + 1)
    rw [Nat.pow_succ, Nat.mul_two]
    exact Nat.add_le_add ih (Nat.le_trans (Nat.le_add_left 1 _) ih)
  | b d s t h1 h2 =>
    show s.cmp + t.cmp + 1 + 1 ≤ 2 ^ (max s.dep t.dep + 1)
    rw [Nat.pow_succ, Nat.mul_two]
    exact Nat.le_trans (Nat.le_of_eq (Nat.add_add_add_comm s.cmp 1 t.cmp 1).symm) (Nat.add_le_add (Nat.le_trans h1 (Nat.pow_le_pow_right (by decide) (Nat.le_max_left _ _))) (Nat.le_trans h2 (Nat.pow_le_pow_right (by decide) (Nat.le_max_right _ _))))
theorem cmp_7 {t : T} (h : t.dep ≤ 3) : t.cmp ≤ 7 := Nat.le_of_succ_le_succ (Nat.le_trans (cmp_dep t) (Nat.pow_le_pow_right (by decide) h) : t.cmp + 1 ≤ 7 + 1)
theorem law_cell_spec (O : Orc C) (k : Nat) {t : T} {K : List Nat} {D : Nat → T} {tb : Addr} {tbl : List (Int × Dt)} {Q : Post} (h : StoreH A x H) (B : Bd x.heap K D []) (hs : t.side) (hl : x.heap.length ≤ 1000) (htb : H tb = some (.di tbl)) (htA : tb ∉ A.all)
    (htab : ∀ n : Nat, n < 5 → lookK (n : Int) tbl = some (Ce.ref n).enc) (hkeys : ∀ e ∈ tbl, ∃ n : Nat, n < 5 ∧ e.1 = (n : Int))
    (q : ∀ H' hp' K' D' c, Gr A.mut H H' → StoreH A { x with heap := hp' } H' → Bd hp' K' D' [] → Grow x.heap K D hp' K' D' → Side hp' K' D' c t → K'.length ≤ K.length + 7 → hp'.length ≤ x.heap.length + 21 → Q (.d c.enc) H') :
    C (k + 5) (.fn "_law_cell") [.r A.s, .d t.enc, .r tb] H Q := by
  refine intro3 O def_law_cell (by decide) (by decide) (by decide) fun f f1 f2 f3 => ?_
  have low : t.lo 5 → t.dep ≤ 3 → Wxs (C (k + 4)) [.ret (.met .store (.loc "store") "put_term" [(.loc "term"), (.loc "known")])] f H (retQ Q) := fun hlo hd => by
    have h7 := cmp_7 hd
    tb_start
    exact put_term_spec O k h B hlo h7 hl htb htA htab hkeys fun H' hp' K' D' c g1 h1 b1 gr1 l1 k1 n1 => q H' hp' K' D' c g1 h1 b1 gr1 (.inl l1) (Nat.le_trans k1 (Nat.add_le_add_left h7 _)) (by omega)
  tb_start
  refine ifD (fun ev => ?_) (fun ev => ?_)
  · tb_start
    obtain ⟨n, rfl⟩ : ∃ n, t = .v n := by
      cases t with
      | v n => exact ⟨n, rfl⟩
      | a n => exact absurd (show "a" = "v" from ev) (by decide)
      | i n => exact absurd (show "i" = "v" from ev) (by decide)
      | _ => exact absurd (show "s" = "v" from ev) (by decide)
    refine ifD (fun z => ?_) (fun z => ?_)
    · have z : (4 : Int) < (n : Int) := z
      have hn7 : n < 7 := by
        rcases hs with ⟨hlo, _⟩ | ⟨m, hm, e⟩
        · exact Nat.lt_trans hlo (by decide)
        · cases e; exact hm
      have hcell : (T.v n).fnum - 5 = ((n - 5 : Nat) : Int) := by show (n : Int) - 5 = _; omega
      tb_start
      rw [hcell]
      exact q H x.heap K D (.srf (n - 5)) (Gr.refl _ _) h B Grow.refl (.inr ⟨n - 5, by omega, rfl, by congr 1; omega⟩) (Nat.le_add_right _ _) (Nat.le_add_right _ _)
    · have z : ¬ (4 : Int) < (n : Int) := z
      exact low (show n < 5 by omega) (Nat.zero_le _)
  · have : t.lo 5 ∧ t.dep ≤ 3 := by
      rcases hs with h | ⟨m, hm, e⟩
      · exact h
      · rw [e] at ev; exact absurd rfl ev
    refine ifF ?_
    exact low this.1 this.2
end
end
section
open PySem
theorem num_ext : ∀ (t : T) (L : List Nat), ∃ M, (t.num L).2 = L ++ M
  | .v n, L => by
    unfold T.num; split
    · exact ⟨[], by simp⟩
    · exact ⟨[n], rfl⟩
  | .a n, L => ⟨[], by simp [T.num]⟩
  | .i n, L => ⟨[], by simp [T.num]⟩
  | .u t, L => by
    obtain ⟨M, h⟩ := num_ext t L
    exact ⟨M, by simp only [T.num, h]⟩
  | .b d s t, L => by
    obtain ⟨M, h⟩ := num_ext s L
    obtain ⟨M2, h2⟩ := num_ext t (s.num L).2
    exact ⟨M ++ M2, by simp only [T.num]; rw [h2, h, List.append_assoc]⟩
theorem num_occ {n : Nat} : ∀ {t : T} {L : List Nat}, t.occ n → n ∈ (t.num L).2
  | .v m, L, h => by
    have : m = n := h
    subst this
    unfold T.num; split
    · assumption
    · simp
  | .u t, L, h => by simp only [T.num]; exact num_occ (t := t) h
  | .b d s t, L, h => by
    simp only [T.num]
    rcases h with h | h
    · obtain ⟨M, e⟩ := num_ext t (s.num L).2
      rw [e]
      exact List.mem_append_left _ (num_occ (t := s) h)
    · exact num_occ (t := t) h
theorem num_all : ∀ {t : T} {L : List Nat}, (∀ n, t.occ n → n ∈ L) → ∀ M, t.num (L ++ M) = ((t.num L).1, L ++ M)
  | .v n, L, h, M => by
    have hn : n ∈ L := h n rfl
    simp only [T.num]
    rw [if_pos hn, if_pos (List.mem_append_left _ hn), List.idxOf_append]
    simp [hn]
  | .a n, L, h, M => rfl
  | .i n, L, h, M => rfl
  | .u t, L, h, M => by
    have := num_all (t := t) (fun n hn => h n hn) M
    simp only [T.num, this]
  | .b d s t, L, h, M => by
    have h1 := num_all (t := s) (fun n hn => h n (.inl hn)) M
    have h2 := num_all (t := t) (fun n hn => h n (.inr hn)) M
    have h3 := num_all (t := s) (fun n hn => h n (.inl hn)) []
    rw [List.append_nil] at h3
    have e3 : (s.num L).2 = L := by rw [h3]
    simp only [T.num, h1, h2, e3]
theorem num_again : ∀ (t : T) (L : List Nat), t.num (t.num L).2 = t.num L
  | .v n, L => by
    by_cases hn : n ∈ L
    · simp only [T.num, if_pos hn]
    · simp only [T.num, if_neg hn]
      rw [if_pos (by simp), List.idxOf_append]
      simp [hn]
  | .a n, L => rfl
  | .i n, L => rfl
  | .u t, L => by simp only [T.num]; rw [num_again t L]
  | .b d s t, L => by
    obtain ⟨M, e⟩ := num_ext t (s.num L).2
    have h1 := num_again s L
    have h2 := num_again t (s.num L).2
    have h3 := num_all (t := s) (L := (s.num L).2) (fun n hn => num_occ hn) M
    rw [← e, h1] at h3
    simp only [T.num]
    rw [h3]
    simp only
    rw [h2]
theorem num_s {t : T} (h : t.mark = "s") (L : List Nat) : (t.num L).1.mark = "s" ∧ (t.num L).1.fnum = t.fnum ∧ (t.num L).1.args = (nums t.args L).1 ∧ (t.num L).2 = (nums t.args L).2 := by
  cases t <;> first | (simp [T.mark] at h; done) | exact ⟨rfl, rfl, rfl, rfl⟩
theorem lookK_putK {K V : Type} [DecidableEq K] (k : K) (v : V) (j : K) : ∀ l : List (K × V), lookK j (putK k v l) = if k = j then some v else lookK j l
  | [] => by simp [putK, lookK]
  | e :: r => by
    simp only [putK]
    by_cases h : e.1 = k
    · rw [if_pos h]
      simp only [lookK, h]
      by_cases e2 : k = j
      · rw [if_pos e2, if_pos e2]
      · rw [if_neg e2, if_neg e2, if_neg e2]
    · rw [if_neg h]
      simp only [lookK]
      rw [lookK_putK k v j r]
      by_cases e2 : k = j
      · subst e2
        rw [if_neg h, if_pos rfl, if_pos rfl]
      · rw [if_neg e2, if_neg e2]
theorem putK_keys {K V : Type} [DecidableEq K] (k : K) (v : V) : ∀ l : List (K × V), (putK k v l).map (·.1) = if k ∈ l.map (·.1) then l.map (·.1) else l.map (·.1) ++ [k]
  | [] => by simp [putK]
  | e :: r => by
    simp only [putK]
    by_cases h : e.1 = k
    · rw [if_pos h]
      simp [h]
    · rw [if_neg h]
      have := putK_keys k v r
      simp only [List.map_cons, this, List.mem_cons]
      by_cases h2 : k ∈ r.map (·.1)
      · rw [if_pos h2, if_pos (.inr h2)]
      · rw [if_neg h2, if_neg (by rintro (z | z); exact h z.symm; exact h2 z)]
        rfl
structure KOk (L : Ly) (V : Ce → T) (Ns : List Nat) (kn : List (Nat × Option T)) : Prop where
  some : ∀ e (a : Nat) r, L.cell e → (e.tag = 2 ∨ e.tag = 3) → e.val = (a : Int) → lookK a kn = some (some r) → (V e).num Ns = (r, Ns)
  nd : (kn.map (·.1)).Nodup
  ks : ∀ a ∈ kn.map (·.1), a ∈ L.K
theorem KOk.len {L : Ly} {V : Ce → T} {Ns : List Nat} {kn : List (Nat × Option T)} (h : KOk L V Ns kn) : kn.length ≤ L.K.length := by
  have := nodup_le L.K _ h.nd h.ks
  rwa [List.length_map] at this
theorem KOk.put {L : Ly} {V : Ce → T} {Ns : List Nat} {kn : List (Nat × Option T)} (h : KOk L V Ns kn) {a : Nat} (ha : a ∈ L.K) (o : Option T)
    (ho : ∀ e r, L.cell e → (e.tag = 2 ∨ e.tag = 3) → e.val = (a : Int) → o = .some r → (V e).num Ns = (r, Ns)) : KOk L V Ns (putK a o kn) := by
  refine ⟨fun e b r he ht hv hl => ?_, ?_, fun b hb => ?_⟩
  · rw [lookK_putK] at hl
    by_cases e2 : a = b
    · subst e2; rw [if_pos rfl] at hl; cases hl
      exact ho e r he ht hv rfl
    · rw [if_neg e2] at hl
      exact h.some e b r he ht hv hl
  · rw [putK_keys]
    split
    · exact h.nd
    · rename_i hn; exact snoc_nd h.nd hn
  · rw [putK_keys] at hb
    split at hb
    · exact h.ks b hb
    · rcases mem_snoc.mp hb with hb | rfl
      · exact h.ks b hb
      · exact ha
noncomputable def NsOk (nm : Nat → Nat) (x : Sx) (Ns : List Nat) : Prop := Ns.Nodup ∧ ∀ m ∈ Ns, ∃ a, x.at (.ref a) = some (.ref a) ∧ nm a = m
inductive TkN (nm : Nat → Nat) (x : Sx) : Nat → List (Bool × Ce) → List T → List Nat → List (Nat × Option T) → T → List Nat → Prop
  | done {r : T} {Ns : List Nat} {kn : List (Nat × Option T)} : TkN nm x 0 [] [r] Ns kn r Ns
  | var {n j a : Nat} {ts : List (Bool × Ce)} {rs : List T} {Ns Nf : List Nat} {kn : List (Nat × Option T)} {r : T} {c : Ce} : Der x.heap x.stack j c (.ref a) → x.at (.ref a) = some (.ref a) → rs.length < 1000 → NsOk nm x Ns →
      TkN nm x n ts (rs ++ [((T.v (nm a)).num Ns).1]) ((T.v (nm a)).num Ns).2 kn r Nf → TkN nm x (n + 1) (ts ++ [(false, c)]) rs Ns kn r Nf
  | con {n j a : Nat} {ts : List (Bool × Ce)} {rs : List T} {Ns Nf : List Nat} {kn : List (Nat × Option T)} {r : T} {c : Ce} : Der x.heap x.stack j c (.con a) → rs.length < 1000 →
      TkN nm x n ts (rs ++ [.a a]) Ns kn r Nf → TkN nm x (n + 1) (ts ++ [(false, c)]) rs Ns kn r Nf
  | int {n j : Nat} {z : Int} {ts : List (Bool × Ce)} {rs : List T} {Ns Nf : List Nat} {kn : List (Nat × Option T)} {r : T} {c : Ce} : Der x.heap x.stack j c (.int z) → rs.length < 1000 →
      TkN nm x n ts (rs ++ [.i z]) Ns kn r Nf → TkN nm x (n + 1) (ts ++ [(false, c)]) rs Ns kn r Nf
  | known {n j a : Nat} {ts : List (Bool × Ce)} {rs : List T} {Ns Nf : List Nat} {kn : List (Nat × Option T)} {r t : T} {c e : Ce} : Der x.heap x.stack j c e → (e.tag = 2 ∨ e.tag = 3) → e.val = (a : Int) → lookK a kn = some (some t) → rs.length < 1000 →
      TkN nm x n ts (rs ++ [t]) Ns kn r Nf → TkN nm x (n + 1) (ts ++ [(false, c)]) rs Ns kn r Nf
  | exp {n j a : Nat} {ts : List (Bool × Ce)} {rs : List T} {Ns Nf : List Nat} {kn : List (Nat × Option T)} {r : T} {c e : Ce} {cs : List Ce} : Der x.heap x.stack j c e → (e.tag = 2 ∨ e.tag = 3) → Blk x.heap e cs → e.val = (a : Int) → lookK a kn = none → kn.length < 1000 → ts.length < 1000 →
      TkN nm x n ((ts ++ [(true, e)]) ++ cs.reverse.map fun d => (false, d)) rs Ns (putK a none kn) r Nf → TkN nm x (n + 1) (ts ++ [(false, c)]) rs Ns kn r Nf
  | build {n a f : Nat} {ts : List (Bool × Ce)} {rs as : List T} {Ns Nf : List Nat} {kn : List (Nat × Option T)} {r t : T} {e : Ce} {cs : List Ce} : Blk x.heap e cs → e.val = (a : Int) → e.fnum x.heap = some f → t.mark = "s" → t.fnum = (f : Int) → t.args = as → as.length = cs.length → kn.length < 1000 → rs.length < 1000 →
      TkN nm x n ts (rs ++ [t]) Ns (putK a (some t) kn) r Nf → TkN nm x (n + 1) (ts ++ [(true, e)]) (rs ++ as) Ns kn r Nf
theorem nums_cons (t : T) (ts : List T) (L : List Nat) : nums (t :: ts) L = ((t.num L).1 :: (nums ts (t.num L).2).1, (nums ts (t.num L).2).2) := rfl
section
variable {L : Ly} {nm : Nat → Nat} {x : Sx} {G : Val} {r : T} {Nf : List Nat}
theorem nsok_num : ∀ {t : T} {Ns : List Nat}, NsOk nm x Ns → (∀ k, t.occ k → ∃ a, x.at (.ref a) = some (.ref a) ∧ nm a = k) → NsOk nm x (t.num Ns).2
  | .v n, Ns, hN, h => by
    unfold T.num
    split
    · exact hN
    · rename_i hn
      refine ⟨snoc_nd hN.1 hn, fun m hm => ?_⟩
      rcases mem_snoc.mp hm with hm | rfl
      · exact hN.2 m hm
      · exact h m rfl
  | .a n, Ns, hN, h => hN
  | .i n, Ns, hN, h => hN
  | .u t, Ns, hN, h => nsok_num (t := t) hN fun k hk => h k hk
  | .b d s t, Ns, hN, h => nsok_num (t := t) (nsok_num (t := s) hN fun k hk => h k (.inl hk)) fun k hk => h k (.inr hk)
theorem args_ex (W : WF L x) (N : Nat)
    (ih : ∀ (c : Ce) (ts : List (Bool × Ce)) (rs : List T) (Ns : List Nat) (kn : List (Nat × Option T)), (G.of L.fn c).sz < N → L.cell c → c.num < 1000000 → NsOk nm x Ns → KOk L (G.of L.fn) Ns kn → (∀ e (a : Nat), L.cell e → (e.tag = 2 ∨ e.tag = 3) → e.val = (a : Int) → lookK a kn = some none → (G.of L.fn c).sz < (G.of L.fn e).sz) →
      ts.length + 3 * (G.of L.fn c).dep ≤ 900 → rs.length + 3 * (G.of L.fn c).dep ≤ 900 →
      (∀ kn', NsOk nm x ((G.of L.fn c).num Ns).2 → KOk L (G.of L.fn) ((G.of L.fn c).num Ns).2 kn' → (∀ a, lookK a kn' = some none → lookK a kn = some none) → ∃ n, TkN nm x n ts (rs ++ [((G.of L.fn c).num Ns).1]) ((G.of L.fn c).num Ns).2 kn' r Nf) → ∃ n, TkN nm x n (ts ++ [(false, c)]) rs Ns kn r Nf)
    (D S : Nat) : ∀ (cs : List Ce) (ts : List (Bool × Ce)) (rs : List T) (Ns : List Nat) (kn : List (Nat × Option T)), (∀ c ∈ cs, (G.of L.fn c).sz < N ∧ L.cell c ∧ c.num < 1000000 ∧ (G.of L.fn c).dep ≤ D ∧ (G.of L.fn c).sz < S) → NsOk nm x Ns → KOk L (G.of L.fn) Ns kn →
      (∀ e (a : Nat), L.cell e → (e.tag = 2 ∨ e.tag = 3) → e.val = (a : Int) → lookK a kn = some none → S ≤ (G.of L.fn e).sz) → ts.length + cs.length + 3 * D ≤ 900 → rs.length + cs.length + 3 * D ≤ 900 →
      (∀ kn', NsOk nm x (nums (cs.map (G.of L.fn)) Ns).2 → KOk L (G.of L.fn) (nums (cs.map (G.of L.fn)) Ns).2 kn' → (∀ a, lookK a kn' = some none → lookK a kn = some none) → ∃ n, TkN nm x n ts (rs ++ (nums (cs.map (G.of L.fn)) Ns).1) (nums (cs.map (G.of L.fn)) Ns).2 kn' r Nf) →
      ∃ n, TkN nm x n (ts ++ cs.reverse.map fun d => (false, d)) rs Ns kn r Nf
  | [], ts, rs, Ns, kn, _, hN, hK, _, _, _, next => by
    have := next kn hN hK fun _ h => h
    simpa [nums] using this
  | c :: cs, ts, rs, Ns, kn, hc, hN, hK, ho, h1, h2, next => by
    obtain ⟨a1, a2, a3, a4, a5⟩ := hc c List.mem_cons_self
    rw [List.reverse_cons, List.map_append, ← List.append_assoc]
    rw [List.length_cons] at h1 h2
    refine ih c _ rs Ns kn a1 a2 a3 hN hK (fun e a he ht hv hl => Nat.lt_of_lt_of_le a5 (ho e a he ht hv hl)) (by rw [List.length_append, List.length_map, List.length_reverse]; exact Nat.le_trans (Nat.add_le_add (Nat.add_le_add_left (Nat.le_succ _) _) (Nat.mul_le_mul_left 3 a4)) h1) (Nat.le_trans (Nat.add_le_add (Nat.le_add_right _ _) (Nat.mul_le_mul_left 3 a4)) h2) fun kn' hN' hK' hs => ?_
    refine args_ex W N ih D S cs ts _ _ kn' (fun d hd => hc d (List.mem_cons_of_mem _ hd)) hN' hK' (fun e a he ht hv hl => ho e a he ht hv (hs a hl)) (Nat.le_trans (Nat.add_le_add_right (Nat.add_le_add_left (Nat.le_succ _) _) _) h1) (by rw [List.length_append, List.length_singleton, Nat.add_assoc rs.length, Nat.add_comm 1]; exact h2) fun kn2 hN2 hK2 hs2 => ?_
    have := next kn2 (by rw [List.map_cons, nums_cons]; exact hN2) (by rw [List.map_cons, nums_cons]; exact hK2) fun a ha => hs a (hs2 a ha)
    rw [List.map_cons, nums_cons] at this
    rw [List.append_assoc]
    exact this
theorem take_ar {t c D : Nat} (hc : c ≤ 2) (h : t + (3 * D + 3) ≤ 900) : t + 1 + c + 3 * D ≤ 900 := by omega
theorem take_ex (W : WF L x) (g : Gen L nm x G) : ∀ (N : Nat) (c : Ce) (ts : List (Bool × Ce)) (rs : List T) (Ns : List Nat) (kn : List (Nat × Option T)), (G.of L.fn c).sz < N → L.cell c → c.num < 1000000 → NsOk nm x Ns → KOk L (G.of L.fn) Ns kn → (∀ e (a : Nat), L.cell e → (e.tag = 2 ∨ e.tag = 3) → e.val = (a : Int) → lookK a kn = some none → (G.of L.fn c).sz < (G.of L.fn e).sz) →
      ts.length + 3 * (G.of L.fn c).dep ≤ 900 → rs.length + 3 * (G.of L.fn c).dep ≤ 900 →
      (∀ kn', NsOk nm x ((G.of L.fn c).num Ns).2 → KOk L (G.of L.fn) ((G.of L.fn c).num Ns).2 kn' → (∀ a, lookK a kn' = some none → lookK a kn = some none) → ∃ n, TkN nm x n ts (rs ++ [((G.of L.fn c).num Ns).1]) ((G.of L.fn c).num Ns).2 kn' r Nf) → ∃ n, TkN nm x n (ts ++ [(false, c)]) rs Ns kn r Nf := by
  intro N
  induction N with
  | zero => intro c ts rs Ns kn h; cases h
  | succ N ih =>
    intro c ts rs Ns kn hN hc hnum hNs hK ho h1 h2 next
    obtain ⟨j, e, hd, hce, hle, hend, hval⟩ := W.der _ (Nat.lt_succ_self _) hc
    have hV := hval G g.mod
    have he1 : e.tag ≠ 1 := by
      intro ht
      cases e <;> simp [Ce.tag] at ht
      have hle : _ + 1000000 ≤ c.num := hle
      exact absurd hnum (Nat.not_lt.mpr (Nat.le_trans (Nat.le_add_left _ _) hle))
    rw [hV] at hN ho h1 h2 next
    have hKl := hK.len
    have hkl := W.kl
    have hr : rs.length < 1000 := Nat.lt_of_le_of_lt (Nat.le_trans (Nat.le_add_right _ _) h2) (by decide)
    by_cases ht : e.tag = 2 ∨ e.tag = 3
    · obtain ⟨cs, f, hblk, hfn, _, hcs, a, haK, hav, _, hb⟩ := W.blk hce ht
      obtain ⟨b1, b2, b3⟩ := hb G g.mod
      cases hl : lookK a kn with
      | some o =>
        cases o with
        | some t =>
          have hnum := hK.some e a t hce ht hav hl
          obtain ⟨n, hT⟩ := next kn (by rw [hnum]; exact hNs) (by rw [hnum]; exact hK) fun _ h => h
          rw [hnum] at hT
          exact ⟨n + 1, .known hd ht hav hl hr hT⟩
        | none => exact absurd (ho e a hce ht hav hl) (Nat.lt_irrefl _)
      | none =>
        have hN1 : NsOk nm x ((G.of L.fn e).num Ns).2 := nsok_num hNs fun k hk => g.locell hce he1 hk
        obtain ⟨s1, s2, s3, s4⟩ := num_s b1 Ns
        rw [b3] at s3 s4
        have hdep : ∀ d ∈ cs, (G.of L.fn d).sz < (G.of L.fn e).sz ∧ (G.of L.fn d).dep < (G.of L.fn e).dep := fun d hd => by
          have hm : G.of L.fn d ∈ (G.of L.fn e).args := by rw [b3]; exact List.mem_map_of_mem hd
          exact ⟨arg_sz hm, args_dep0 _ hm⟩
        have hcl := hblk.len
        have hK1 : KOk L (G.of L.fn) Ns (putK a none kn) := hK.put haK none fun _ _ _ _ _ h => (nomatch h)
        have hcl0 : 0 < cs.length := by cases hblk <;> simp
        have hdp : 1 ≤ (G.of L.fn e).dep := by
          obtain ⟨d, hd⟩ := List.exists_mem_of_length_pos hcl0
          exact Nat.lt_of_le_of_lt (Nat.zero_le _) (hdep d hd).2
        obtain ⟨D, hD⟩ := Nat.exists_eq_succ_of_ne_zero (Nat.ne_of_gt hdp)
        rw [hD, Nat.succ_eq_add_one, Nat.mul_succ] at h1 h2
        obtain ⟨n, hT⟩ := args_ex (r := r) (Nf := Nf) W N ih D (G.of L.fn e).sz cs (ts ++ [(true, e)]) rs Ns (putK a none kn) (fun d hd => by
            obtain ⟨q1, q2⟩ := hdep d hd
            exact ⟨Nat.lt_of_lt_of_le q1 (Nat.le_of_lt_succ hN), (hcs d hd).1, (hcs d hd).2, Nat.le_of_lt_succ (hD ▸ q2), q1⟩) hNs hK1 (fun e' a' he' ht' hv' hl' => by
            rw [lookK_putK] at hl'
            by_cases e2 : a = a'
            · subst e2
              rw [val_inj he' hce ht' ht (by rw [hv', hav])]; exact Nat.le_refl _
            · rw [if_neg e2] at hl'
              exact Nat.le_of_lt (ho e' a' he' ht' hv' hl')) (by rw [List.length_append, List.length_singleton]; exact take_ar hcl h1) (Nat.le_trans (Nat.add_le_add_right (Nat.add_le_add_right (Nat.le_succ _) _) _) (take_ar hcl h2)) fun kn' hN' hK' hs => by
            rw [← s3, ← s4]
            rw [← s4] at hK'
            have hK2 : KOk L (G.of L.fn) ((G.of L.fn e).num Ns).2 (putK a (some ((G.of L.fn e).num Ns).1) kn') := hK'.put haK _ fun e' r' he' ht' hv' hr => by
              cases hr
              rw [val_inj he' hce ht' ht (by rw [hv', hav]), num_again]
            obtain ⟨n, hT⟩ := next _ hN1 hK2 fun b hb => by
              rw [lookK_putK] at hb
              by_cases e2 : a = b
              · rw [if_pos e2] at hb; cases hb
              · rw [if_neg e2] at hb
                have := hs b hb
                rw [lookK_putK, if_neg e2] at this
                exact this
            have hl3 := hK'.len
            refine ⟨n + 1, .build (cs := cs) (f := f) (t := ((G.of L.fn e).num Ns).1) hblk hav hfn s1 (by rw [s2, b2]) rfl ?_ (Nat.lt_of_le_of_lt (Nat.le_trans hl3 hkl) (by decide)) hr hT⟩
            rcases same_fun s1 b1 s2 with ⟨y, y2, ey, ey2⟩ | ⟨d0, y, y2, z1, z2, ey, ey2⟩
            · have l2 := congrArg List.length b3
              rw [ey2] at l2
              rw [ey]; simp [T.args] at l2 ⊢; omega
            · have l2 := congrArg List.length b3
              rw [ey2] at l2
              rw [ey]; simp [T.args] at l2 ⊢; omega
        exact ⟨n + 1, .exp hd ht hblk hav hl (Nat.lt_of_le_of_lt (Nat.le_trans hKl hkl) (by decide)) (Nat.lt_of_le_of_lt (Nat.le_trans (Nat.le_add_right _ _) h1) (by decide)) hT⟩
    · rcases hend with h4 | hun
      · cases e with
        | con a =>
          obtain ⟨n, hT⟩ := next kn hNs hK fun _ h => h
          exact ⟨n + 1, .con hd hr hT⟩
        | int z =>
          obtain ⟨n, hT⟩ := next kn hNs hK fun _ h => h
          exact ⟨n + 1, .int hd hr hT⟩
        | str a => exact absurd (.inl rfl) ht
        | lis a => exact absurd (.inr rfl) ht
        | fn a => exact hce.elim
        | _ => simp [Ce.tag] at h4
      · cases e with
        | ref a =>
          have hu := g.un _ hun
          have hu : G.of L.fn (.ref a) = .v (nm a) := hu
          rw [hu] at next
          have hN1 : NsOk nm x ((T.v (nm a)).num Ns).2 := nsok_num hNs fun k hk => ⟨a, hun, hk⟩
          have hK1 : KOk L (G.of L.fn) ((T.v (nm a)).num Ns).2 kn := by
            obtain ⟨M, hM⟩ := num_ext (T.v (nm a)) Ns
            refine ⟨fun e' b t he' ht' hv' hl' => ?_, hK.nd, hK.ks⟩
            have := hK.some e' b t he' ht' hv' hl'
            rw [hM, num_all (fun n hn => by have h := num_occ (L := Ns) hn; rw [this] at h; exact h) M, this]
          obtain ⟨n, hT⟩ := next kn hN1 hK1 fun _ h => h
          exact ⟨n + 1, .var hd hun hr hNs hT⟩
        | srf a => exact absurd rfl he1
        | _ => cases hun
end
theorem gen_of {L : Ly} {G m : Val} {κ : Nat → T} (h1 : ∀ a, L.vc a → m.h a = (G.h a).sub κ) (h2 : ∀ i, i < 2 → m.s i = (G.s i).sub κ) {c : Ce} (hc : L.cell c) : m.of L.fn c = (G.of L.fn c).sub κ := by
  cases c with
  | ref n => exact h1 n hc
  | srf n => exact h2 n hc
  | str b =>
    rcases hc.2 with ⟨e, hv⟩ | ⟨e, hv, hw⟩
    · rw [of_str12 e, of_str12 e]
      show T.u (m.h _) = T.u ((G.h _).sub κ)
      rw [h1 _ hv]
    · rw [of_str13 e, of_str13 e]
      show T.b false (m.h _) (m.h _) = T.b false ((G.h _).sub κ) ((G.h _).sub κ)
      rw [h1 _ hv, h1 _ hw]
  | lis b =>
    show T.b true (m.h _) (m.h _) = T.b true ((G.h _).sub κ) ((G.h _).sub κ)
    rw [h1 _ hc.2.1, h1 _ hc.2.2]
  | con n => rfl
  | int n => rfl
  | fn n => exact hc.elim
theorem encN_congr {ad ad' : Nat → Int} : ∀ {i : Nat} {Ns : List Nat}, (∀ n ∈ Ns, ad' n = ad n) → encN ad' i Ns = encN ad i Ns
  | i, [], _ => rfl
  | i, n :: Ns, h => by
    simp only [encN]
    rw [h n List.mem_cons_self, encN_congr fun m hm => h m (List.mem_cons_of_mem _ hm)]
structure TS (x0 : Sx) (κ : Nat → T) (b : Nat) (x : Sx) (L : Ly) (nm : Nat → Nat) (G : Val) (ad : Nat → Int) (Ns : List Nat) : Prop where
  wf : WF L x
  gen : Gen L nm x G
  tr : Tr x0 x
  key : ∀ k, k < 7 → G.key k = κ k
  ns : NsOk nm x Ns
  had : ∀ a, x.at (.ref a) = some (.ref a) → ad (nm a) = (a : Int)
  v5 : ∀ a, a < 5 → L.vc a
  nb : L.n ≤ b
section
variable {x0 x : Sx} {κ : Nat → T} {b : Nat} {L : Ly} {nm : Nat → Nat} {G : Val} {ad : Nat → Int} {Ns : List Nat}
theorem TS.up (S : TS x0 κ b x L nm G ad Ns) {b' : Nat} (h : b ≤ b') : TS x0 κ b' x L nm G ad Ns := ⟨S.wf, S.gen, S.tr, S.key, S.ns, S.had, S.v5, Nat.le_trans S.nb h⟩
open Classical in
theorem TS.glob (S : TS x0 κ b x L nm G ad Ns) (hb : b < 1000) {m : Nat} (hm : x.at (.srf m) = some (.srf m)) : ∃ L' nm' G' ad', TS x0 κ (b + 1) (Sx.bind { x with heap := x.heap ++ [.ref x.heap.length] } (.srf m) (.ref x.heap.length)) L' nm' G' ad' Ns ∧ encN ad' 0 Ns = encN ad 0 Ns ∧
    L'.cell (.ref x.heap.length) ∧ G'.h x.heap.length = G.s m ∧ (Sx.bind { x with heap := x.heap ++ [.ref x.heap.length] } (.srf m) (.ref x.heap.length)).at (.ref x.heap.length) = some (.ref x.heap.length) := by
  have W := S.wf
  have g := S.gen
  have hhl := W.hl
  have hlt := W.lt
  have hnb := S.nb
  have hn5 : 5 ≤ L.n := (S.v5 4 (by decide)).1
  have hm2 : m < 2 := W.at_cell hm
  have hfn : L.fn L.n = none := by
    cases h : L.fn L.n with
    | none => rfl
    | some f =>
      have := (W.fnc L.n f).mpr h
      have := (List.getElem?_eq_some_iff.mp this).1
      rw [hhl] at this
      exact absurd this (Nat.lt_irrefl _)
  rw [hhl]
  have hget : ∀ a, (x.heap ++ [Ce.ref L.n])[a]? = if a = L.n then some (.ref L.n) else x.heap[a]? := fun a => by
    by_cases e : a = L.n
    · subst e
      rw [if_pos rfl, ← hhl, List.getElem?_append_right (Nat.le_refl _), Nat.sub_self]; rfl
    · rw [if_neg e]
      rcases Nat.lt_or_ge a x.heap.length with h | h
      · rw [List.getElem?_append_left h]
      · rw [List.getElem?_eq_none h, List.getElem?_eq_none (by rw [List.length_append]; exact Nat.lt_of_le_of_ne h fun z => e (z.symm.trans hhl))]
  have yat : ∀ d, ({ x with heap := x.heap ++ [.ref L.n] } : Sx).at d = if d = .ref L.n then some (.ref L.n) else x.at d := fun d => by
    cases d with
    | ref a =>
      simp only [Sx.at, hget]
      by_cases e : a = L.n
      · subst e; rw [if_pos rfl, if_pos rfl]
      · rw [if_neg e, if_neg (by simpa using e)]
    | srf a => rw [if_neg (by simp)]; rfl
    | str a => rw [if_neg (by simp)]; rfl
    | lis a => rw [if_neg (by simp)]; rfl
    | con a => rw [if_neg (by simp)]; rfl
    | int a => rw [if_neg (by simp)]; rfl
    | fn a => rw [if_neg (by simp)]; rfl
  have hym : ({ x with heap := x.heap ++ [.ref L.n] } : Sx).at (.srf m) = some (.srf m) := by rw [yat, if_neg (by simp)]; exact hm
  have vcm : ∀ a, L.vc a → Ly.vc ⟨L.n + 1, L.fn, L.K⟩ a := fun a h => ⟨Nat.lt_succ_of_lt h.1, h.2⟩
  have cem : ∀ c, L.cell c → Ly.cell ⟨L.n + 1, L.fn, L.K⟩ c := fun c h => by
    cases c with
    | ref n => exact vcm n h
    | srf n => exact h
    | str n =>
      rcases h.2 with ⟨e, h1⟩ | ⟨e, h1, h2⟩
      · exact ⟨h.1, .inl ⟨e, vcm _ h1⟩⟩
      · exact ⟨h.1, .inr ⟨e, vcm _ h1, vcm _ h2⟩⟩
    | lis n => exact ⟨h.1, vcm _ h.2.1, vcm _ h.2.2⟩
    | con n => trivial
    | int n => trivial
    | fn n => exact h
  have hcn : Ly.cell ⟨L.n + 1, L.fn, L.K⟩ (.ref L.n) := ⟨Nat.lt_succ_self _, hfn⟩
  have Wy : WF ⟨L.n + 1, L.fn, L.K⟩ { x with heap := x.heap ++ [.ref L.n] } := by
    refine ⟨by simp [hhl], W.sl, by show L.n + 1 ≤ 1000; omega, W.kl, fun a f => ?_, fun c d h => ?_⟩
    · show (x.heap ++ [Ce.ref L.n])[a]? = _ ↔ _
      rw [hget]
      by_cases e : a = L.n
      · subst e
        rw [if_pos rfl]
        show _ ↔ L.fn L.n = some f
        rw [hfn]
        constructor <;> intro h <;> cases h
      · rw [if_neg e]; exact W.fnc a f
    · rw [yat] at h
      split at h
      · rename_i e; cases h; subst e; exact ⟨hcn, Nat.le_refl _⟩
      · obtain ⟨h1, h2⟩ := W.ok _ _ h
        exact ⟨cem _ h1, h2⟩
  have W' := Wy.bind hym hcn (by show L.n ≤ m + 1000000; omega)
  have xat : ∀ d, (Sx.bind { x with heap := x.heap ++ [.ref L.n] } (.srf m) (.ref L.n)).at d = if d = .srf m then some (.ref L.n) else if d = .ref L.n then some (.ref L.n) else x.at d := fun d => by
    rw [bind_at (v := .ref L.n) hym trivial, yat]
  have hatn : ∀ n, x.at (.ref n) = some (.ref n) → n ≠ L.n := fun n h e => by
    exact absurd (e ▸ (W.at_vc h).1 : L.n < L.n) (Nat.lt_irrefl _)
  have hxu : ∀ d, (Sx.bind { x with heap := x.heap ++ [.ref L.n] } (.srf m) (.ref L.n)).at d = some d → d ≠ .srf m ∧ (d = .ref L.n ∨ x.at d = some d) := fun d h => by
    rw [xat] at h
    split at h
    · rename_i e; subst e; cases h
    · rename_i e
      refine ⟨e, ?_⟩
      split at h
      · rename_i e2; exact .inl e2
      · exact .inr h
  have hGs : G.s m = .v (5 + m) := g.un _ hm
  have hGh : ∀ a, L.vc a → (if a = L.n then T.v (5 + m) else G.h a) = G.h a := fun a h => if_neg (fun e : a = L.n => absurd (e ▸ h.1 : L.n < L.n) (Nat.lt_irrefl _))
  have hof : ∀ c, L.cell c → (Val.mk (fun a => if a = L.n then T.v (5 + m) else G.h a) G.s).of L.fn c = G.of L.fn c := fun c hc => by
    have := gen_of (L := L) (G := G) (m := Val.mk (fun a => if a = L.n then T.v (5 + m) else G.h a) G.s) (κ := T.v) (fun a ha => by rw [T.sub_v]; exact hGh a ha) (fun i _ => by rw [T.sub_v]) hc
    rwa [T.sub_v] at this
  have hnam : ∀ d, x.at d = some d → d.nam (fun a => if a = L.n then 5 + m else nm a) = d.nam nm := fun d hd => by
    cases d with
    | ref n => exact if_neg (hatn n hd)
    | _ => rfl
  have hno : ∀ d, x.at d = some d → d ≠ .srf m → d.nam nm ≠ 5 + m := fun d hd hne e => hne (g.inj d _ hd hm e)
  have key5 : ∀ k, k < 7 → (Val.mk (fun a => if a = L.n then T.v (5 + m) else G.h a) G.s).key k = G.key k := fun k hk => by
    simp only [Val.key]
    by_cases h5 : k < 5
    · rw [if_pos h5, if_pos h5, if_neg (by omega)]
    · rw [if_neg h5, if_neg h5]
  refine ⟨⟨L.n + 1, L.fn, L.K⟩, fun a => if a = L.n then 5 + m else nm a, ⟨fun a => if a = L.n then .v (5 + m) else G.h a, G.s⟩, fun k => if k = 5 + m then (L.n : Int) else ad k, ⟨W', ?_, ?_, fun k hk => by rw [key5 k hk]; exact S.key k hk, ?_, ?_, fun a ha => vcm a (S.v5 a ha), by show L.n + 1 ≤ b + 1; omega⟩, ?_, hcn, ?_, ?_⟩
  · refine ⟨fun c d hcd => ?_, fun c hc => ?_, fun c hc => ?_, fun c d hc hd he => ?_, fun a ha k hk => ?_, fun m' hm' c hc => ?_⟩
    · rw [xat] at hcd
      split at hcd
      · rename_i e; subst e; cases hcd
        show G.s m = if L.n = L.n then _ else _
        rw [if_pos rfl, hGs]
      · split at hcd
        · rename_i e; subst e; cases hcd; rfl
        · show Val.of L.fn _ c = Val.of L.fn _ d
          rw [hof c (W.at_cell hcd), hof d (W.ok _ _ hcd).1]
          exact g.mod c d hcd
    · obtain ⟨h1, h2 | h2⟩ := hxu c hc
      · subst h2
        show (if L.n = L.n then _ else _) = T.v (if L.n = L.n then _ else _)
        rw [if_pos rfl, if_pos rfl]
      · rw [hnam c h2]
        show Val.of L.fn _ c = _
        rw [hof c (W.at_cell h2)]
        exact g.un c h2
    · obtain ⟨h1, h2 | h2⟩ := hxu c hc
      · subst h2
        show (if L.n = L.n then _ else _) < 7
        rw [if_pos rfl]; omega
      · rw [hnam c h2]; exact g.lt7 c h2
    · obtain ⟨h1, h2 | h2⟩ := hxu c hc
      · obtain ⟨h3, h4 | h4⟩ := hxu d hd
        · rw [h2, h4]
        · rw [hnam d h4] at he
          subst h2
          have : Ce.nam (fun a => if a = L.n then 5 + m else nm a) (.ref L.n) = 5 + m := if_pos rfl
          rw [this] at he
          exact absurd he.symm (hno d h4 h3)
      · obtain ⟨h3, h4 | h4⟩ := hxu d hd
        · rw [hnam c h2] at he
          subst h4
          have : Ce.nam (fun a => if a = L.n then 5 + m else nm a) (.ref L.n) = 5 + m := if_pos rfl
          rw [this] at he
          exact absurd he (hno c h2 h1)
        · rw [hnam c h2, hnam d h4] at he
          exact g.inj c d h2 h4 he
    · have hk' : (if a = L.n then T.v (5 + m) else G.h a).occ k := hk
      by_cases e : a = L.n
      · rw [if_pos e] at hk'
        refine ⟨L.n, by rw [xat, if_neg (by simp), if_pos rfl], ?_⟩
        rw [if_pos rfl]; exact hk'
      · rw [if_neg e] at hk'
        have hva : L.vc a := ⟨by have : a < L.n + 1 := ha.1; omega, ha.2⟩
        obtain ⟨n, h1, h2⟩ := g.lo a hva k hk'
        have hne := hatn n h1
        exact ⟨n, by rw [xat, if_neg (by simp), if_neg (by simpa using hne)]; exact h1, (if_neg hne).trans h2⟩
    · have hmx : Mod L x m' := fun c d hcd => by
        by_cases e : c = .srf m
        · subst e; rw [hm] at hcd; cases hcd; rfl
        · have hne : c ≠ .ref L.n := fun e => by
            subst e
            have := (W.at_vc hcd).1
            omega
          exact hm' c d (by rw [xat, if_neg e, if_neg hne]; exact hcd)
      have h0 : m'.s m = m'.h L.n := hm' (.srf m) (.ref L.n) (by rw [xat, if_pos rfl])
      have hs := g.gen m' hmx (.srf m) hm2
      refine gen_of (L := ⟨L.n + 1, L.fn, L.K⟩) (G := ⟨fun a => if a = L.n then .v (5 + m) else G.h a, G.s⟩) (fun a ha => ?_) (fun i hi => g.gen m' hmx (.srf i) hi) hc
      show m'.h a = (if a = L.n then T.v (5 + m) else G.h a).sub m'.key
      by_cases e : a = L.n
      · rw [if_pos e, e, ← h0, ← hGs]
        exact hs
      · rw [if_neg e]
        exact g.gen m' hmx (.ref a) ⟨by have : a < L.n + 1 := ha.1; omega, ha.2⟩
  · exact (S.tr.grow _).bind hym (by simp) fun n h => nomatch h
  · refine ⟨S.ns.1, fun k hk => ?_⟩
    obtain ⟨a, h1, h2⟩ := S.ns.2 k hk
    have hne := hatn a h1
    exact ⟨a, by rw [xat, if_neg (by simp), if_neg (by simpa using hne)]; exact h1, (if_neg hne).trans h2⟩
  · intro a ha
    obtain ⟨h1, h2 | h2⟩ := hxu _ ha
    · cases h2
      rw [if_pos rfl, if_pos rfl]
    · have hne := hatn a h2
      have hn0 : nm a ≠ 5 + m := hno _ h2 (by simp)
      rw [if_neg hne, if_neg hn0]
      exact S.had a h2
  · refine encN_congr fun k hk => ?_
    obtain ⟨a, h1, h2⟩ := S.ns.2 k hk
    exact if_neg fun e => hno _ h1 (by simp) (by rw [← e, ← h2]; rfl)
  · show (if L.n = L.n then _ else _) = _
    rw [if_pos rfl, hGs]
  · rw [xat, if_neg (by simp), if_pos rfl]
end
end
section
open PySem PySem.W PyProof.Rows
noncomputable def encT (p : Bool × Ce) : Dt := .tup [.int (if p.1 then 1 else 0), p.2.enc]
noncomputable def encO : Option T → Dt
  | some t => t.enc
  | none => .none
noncomputable def encKn (kn : List (Nat × Option T)) : List (Int × Dt) := kn.map fun p => ((p.1 : Int), encO p.2)
theorem look_encKn (a : Nat) : ∀ kn : List (Nat × Option T), lookK (a : Int) (encKn kn) = (lookK a kn).map encO
  | [] => rfl
  | p :: kn => by
    have ih := look_encKn a kn
    unfold encKn at ih ⊢
    simp only [List.map_cons, lookK]
    by_cases h : p.1 = a
    · rw [if_pos h, if_pos (by rw [h])]; rfl
    · rw [if_neg h, if_neg (by omega)]; exact ih
theorem put_encKn (a : Nat) (o : Option T) : ∀ kn : List (Nat × Option T), putK (a : Int) (encO o) (encKn kn) = encKn (putK a o kn)
  | [] => rfl
  | p :: kn => by
    have ih := put_encKn a o kn
    unfold encKn at ih ⊢
    simp only [List.map_cons, putK]
    by_cases h : p.1 = a
    · rw [if_pos h, if_pos (by rw [h])]; rfl
    · rw [if_neg h, if_neg (by omega)]
      simp only [List.map_cons]
      rw [← ih]
theorem encKn_len (kn : List (Nat × Option T)) : (encKn kn).length = kn.length := by simp [encKn]
inductive VisC (nm : Nat → Nat) (x : Sx) (n : Nat) (ts : List (Bool × Ce)) (rs : List T) (Ns : List Nat) (kn : List (Nat × Option T)) (r : T) (Nf : List Nat) (e : Ce) : Prop
  | var {a : Nat} (he : e = .ref a) (h1 : x.at (.ref a) = some (.ref a)) (hl : rs.length < 1000) (hN : NsOk nm x Ns) (run : TkN nm x n ts (rs ++ [((T.v (nm a)).num Ns).1]) ((T.v (nm a)).num Ns).2 kn r Nf) : VisC nm x n ts rs Ns kn r Nf e
  | con {a : Nat} (he : e = .con a) (hl : rs.length < 1000) (run : TkN nm x n ts (rs ++ [.a a]) Ns kn r Nf) : VisC nm x n ts rs Ns kn r Nf e
  | int {z : Int} (he : e = .int z) (hl : rs.length < 1000) (run : TkN nm x n ts (rs ++ [.i z]) Ns kn r Nf) : VisC nm x n ts rs Ns kn r Nf e
  | known {a : Nat} {t : T} (tag : e.tag = 2 ∨ e.tag = 3) (hv : e.val = (a : Int)) (hk : lookK a kn = some (some t)) (hl : rs.length < 1000) (run : TkN nm x n ts (rs ++ [t]) Ns kn r Nf) : VisC nm x n ts rs Ns kn r Nf e
  | exp {a : Nat} {cs : List Ce} (tag : e.tag = 2 ∨ e.tag = 3) (hb : Blk x.heap e cs) (hv : e.val = (a : Int)) (hk : lookK a kn = none) (hkl : kn.length < 1000) (hl : ts.length < 1000)
    (run : TkN nm x n ((ts ++ [(true, e)]) ++ cs.reverse.map fun d => (false, d)) rs Ns (putK a none kn) r Nf) : VisC nm x n ts rs Ns kn r Nf e
inductive TkS (nm : Nat → Nat) (x : Sx) (n : Nat) (ts : List (Bool × Ce)) (rs : List T) (Ns : List Nat) (kn : List (Nat × Option T)) (r : T) (Nf : List Nat) (b : Bool) (c : Ce) : Prop
  | vis {m j : Nat} {e : Ce} (hn : n = m + 1) (hb : b = false) (hd : Der x.heap x.stack j c e) (hv : VisC nm x m ts rs Ns kn r Nf e) : TkS nm x n ts rs Ns kn r Nf b c
  | bld {m a f : Nat} {rs0 as : List T} {t : T} {cs : List Ce} (hn : n = m + 1) (hb : b = true) (hr : rs = rs0 ++ as) (h1 : Blk x.heap c cs) (h2 : c.val = (a : Int)) (h3 : c.fnum x.heap = some f) (h4 : t.mark = "s") (h5 : t.fnum = (f : Int)) (h6 : t.args = as)
    (h7 : as.length = cs.length) (h8 : kn.length < 1000) (h9 : rs0.length < 1000) (run : TkN nm x m ts (rs0 ++ [t]) Ns (putK a (some t) kn) r Nf) : TkS nm x n ts rs Ns kn r Nf b c
inductive TkV (nm : Nat → Nat) (x : Sx) (n : Nat) (WW : List (Bool × Ce)) (rs : List T) (Ns : List Nat) (kn : List (Nat × Option T)) (r : T) (Nf : List Nat) : Prop
  | nil (h : WW = []) (h1 : rs = [r]) (h2 : Ns = Nf) : TkV nm x n WW rs Ns kn r Nf
  | snoc {ts : List (Bool × Ce)} {b : Bool} {c : Ce} (h : WW = ts ++ [(b, c)]) (s : TkS nm x n ts rs Ns kn r Nf b c) : TkV nm x n WW rs Ns kn r Nf
theorem tk_inv {nm : Nat → Nat} {x : Sx} {n : Nat} {WW : List (Bool × Ce)} {rs : List T} {Ns : List Nat} {kn : List (Nat × Option T)} {r : T} {Nf : List Nat} (h : TkN nm x n WW rs Ns kn r Nf) : TkV nm x n WW rs Ns kn r Nf := by
  induction h with
  | done => exact .nil rfl rfl rfl
  | var h1 h2 h3 h4 h5 => exact .snoc rfl (.vis rfl rfl h1 (.var rfl h2 h3 h4 h5))
  | con h1 h2 h3 => exact .snoc rfl (.vis rfl rfl h1 (.con rfl h2 h3))
  | int h1 h2 h3 => exact .snoc rfl (.vis rfl rfl h1 (.int rfl h2 h3))
  | known h1 h2 h3 h4 h5 h6 => exact .snoc rfl (.vis rfl rfl h1 (.known h2 h3 h4 h5 h6))
  | exp h1 h2 h3 h4 h5 h6 h7 h8 => exact .snoc rfl (.vis rfl rfl h1 (.exp h2 h3 h4 h5 h6 h7 h8))
  | build h1 h2 h3 h4 h5 h6 h7 h8 h9 h10 => exact .snoc rfl (.bld rfl rfl rfl h1 h2 h3 h4 h5 h6 h7 h8 h9 h10)
section
variable {C : Nat → Oracle} {A : SA} {x : Sx} {H : AH} {nm : Nat → Nat} {ad : Nat → Int}
noncomputable def tobjs (ad : Nat → Int) (w rd kd tb : Addr) (ts : List (Bool × Ce)) (rs : List T) (Ns : List Nat) (kn : List (Nat × Option T)) : List (Addr × AO) := [(w, .lst (ts.map encT)), (rd, .lst (encs rs)), (kd, .di (encKn kn)), (tb, .di (encN ad 0 Ns))]
inductive TI (A : SA) (x : Sx) (nm : Nat → Nat) (ad : Nat → Int) (w rd kd tb : Addr) (r : T) (Nf : List Nat) (H2 : AH) (n : Nat) (f : Frm) (H' : AH) : Prop
  | mk {ts : List (Bool × Ce)} {rs : List T} {Ns : List Nat} {kn : List (Nat × Option T)} (f1 : f "self" = some (.r A.s)) (f2 : f "table" = some (.r tb)) (f3 : f "known" = some (.r kd)) (f4 : f "results" = some (.r rd)) (f5 : f "work" = some (.r w))
    (g : Gr [w, rd, kd, tb] H2 H') (st : StoreH A x H') (hv : Hv (tobjs ad w rd kd tb ts rs Ns kn) H') (run : TkN nm x n ts rs Ns kn r Nf) : TI A x nm ad w rd kd tb r Nf H2 n f H'
inductive VI (A : SA) (x : Sx) (ad : Nat → Int) (w rd kd tb : Addr) (H2 : AH) (e : Ce) (ts : List (Bool × Ce)) (cs : List Ce) (rs : List T) (Ns : List Nat) (kn : List (Nat × Option T)) (i : Nat) (f : Frm) (H' : AH) : Prop
  | mk (f1 : f "self" = some (.r A.s)) (f2 : f "table" = some (.r tb)) (f3 : f "known" = some (.r kd)) (f4 : f "results" = some (.r rd)) (f5 : f "work" = some (.r w)) (f6 : f "place" = some (.d (.int e.base)))
    (g : Gr [w, rd, kd, tb] H2 H') (st : StoreH A x H') (hv : Hv (tobjs ad w rd kd tb (ts ++ (cs.reverse.take i).map fun d => (false, d)) rs Ns kn) H') : VI A x ad w rd kd tb H2 e ts cs rs Ns kn i f H'
noncomputable abbrev visitS : List IS := [
    .asg (.one "tag") (.sub (.loc "cell") (.con (.int 0))),
    .ife (.cmp .Eq (.loc "tag") (.con (.int 0))) [
      .ife (.cmp .NotIn (.sub (.loc "cell") (.con (.int 1))) (.loc "table")) [
        .ssub (.loc "table") (.sub (.loc "cell") (.con (.int 1))) (.len (.loc "table"))] [],
      .exp (.mb (.loc "results") "append" [(.tup [(.con (.str "v")), (.sub (.loc "table") (.sub (.loc "cell") (.con (.int 1))))])])] [
      .ife (.cmp .Eq (.loc "tag") (.con (.int 4))) [
        .exp (.mb (.loc "results") "append" [(.tup [(.con (.str "a")), (.sub (.loc "cell") (.con (.int 1)))])])] [
        .ife (.cmp .Eq (.loc "tag") (.con (.int 5))) [
          .exp (.mb (.loc "results") "append" [(.tup [(.con (.str "i")), (.sub (.loc "cell") (.con (.int 1)))])])] [
          .ife (.cmp .In (.sub (.loc "cell") (.con (.int 1))) (.loc "known")) [
            .asg (.one "term") (.sub (.loc "known") (.sub (.loc "cell") (.con (.int 1)))),
            .ife (.cmp .Is (.loc "term") (.con .none)) [
              .bad] [],
            .exp (.mb (.loc "results") "append" [(.loc "term")])] [
            .ssub (.loc "known") (.sub (.loc "cell") (.con (.int 1))) (.con .none),
            .exp (.mb (.loc "work") "append" [(.tup [(.con (.int 1)), (.loc "cell")])]),
            .asg (.one "place") (.met .store (.loc "self") "base" [(.loc "cell")]),
            .forR "step" [(.bin .Sub (.met .store (.loc "self") "width" [(.loc "cell")]) (.con (.int 1))), (.neg (.con (.int 1))), (.neg (.con (.int 1)))] [
              .exp (.mb (.loc "work") "append" [(.tup [(.con (.int 0)), (.sub (.att (.loc "self") "heap") (.bin .Add (.loc "place") (.loc "step")))])])]]]]]]
set_option tactic.hygienic true in
theorem take_visit (O : Orc C) (k : Nat) {w rd kd tb : Addr} {r : T} {Nf : List Nat} {H2 H4 : AH} {n m : Nat} {ts : List (Bool × Ce)} {rs : List T} {Ns : List Nat} {kn : List (Nat × Option T)} {e : Ce} {f : Frm} {R : SPost}
    (dis : ∀ a ∈ [w, rd, kd, tb], a ∉ A.all) (had : ∀ a, x.at (.ref a) = some (.ref a) → ad (nm a) = (a : Int)) (lt7 : ∀ a, x.at (.ref a) = some (.ref a) → nm a < 7)
    (g4 : Gr [w, rd, kd, tb] H2 H4) (hS : StoreH A x H4) (hv : Hv (tobjs ad w rd kd tb ts rs Ns kn) H4) (hV : VisC nm x m ts rs Ns kn r Nf e) (hn : n = m + 1)
    (f1 : f "self" = some (.r A.s)) (f2 : f "table" = some (.r tb)) (f3 : f "known" = some (.r kd)) (f4 : f "results" = some (.r rd)) (f5 : f "work" = some (.r w)) (f6 : f "cell" = some (.d e.enc)) :
    Wxs (C (k + 3)) visitS f H4 (turnQ (lessI (TI A x nm ad w rd kd tb r Nf H2) n) R) := by
  have hrA := dis rd (.tail _ (.head _))
  have hw := hv.get 0 rfl
  have hr := hv.get 1 rfl
  have hk := hv.get 2 rfl
  have ht := hv.get 3 rfl
  have res : ∀ {f' : Frm} {H5 : AH} {Ns' : List Nat} (t : T), Gr [w, rd, kd, tb] H2 H5 → StoreH A x H5 → Hv (tobjs ad w rd kd tb ts rs Ns' kn) H5 → TkN nm x m ts (rs ++ [t]) Ns' kn r Nf → f' "self" = some (.r A.s) → f' "table" = some (.r tb) → f' "known" = some (.r kd) → f' "results" = some (.r rd) → f' "work" = some (.r w) →
      lessI (TI A x nm ad w rd kd tb r Nf H2) n f' (H5.set rd (.lst (encs rs ++ [t.enc]))) := fun t g5 h5 hv5 run a1 a2 a3 a4 a5 => by
    have hv6 := hv5.upd 1 rfl (.lst (encs rs ++ [t.enc]))
    rw [encs_snoc] at hv6 ⊢
    exact ⟨m, by rw [hn]; exact Nat.lt_succ_self _, a1, a2, a3, a4, a5, g5.tr (gr_mem (.tail _ (.head _))), h5.other hrA, hv6, run⟩
  have lim1 : rs.length < 1000 → (encs rs).length < lim := fun hl => by rw [encs_len]; exact Nat.lt_trans hl (by decide)
  tb_start
  cases hV with
  | var he hun hl hNs run =>
    rename_i a
    subst he
    have hna := had a hun
    have hadj : ∀ q ∈ Ns, ad q = ad (nm a) → q = nm a := fun q hq e => by
      obtain ⟨b, h1, h2⟩ := hNs.2 q hq
      rw [← h2, had b h1, hna] at e
      rw [← h2, Int.ofNat.inj e]
    have hlook := look_encN (key := ad) (n := nm a) (i := 0) (L := Ns) hadj
    rw [hna, Nat.zero_add] at hlook
    refine ifDT rfl ?_
    tb_start
    by_cases hm : nm a ∈ Ns
    · rw [if_pos hm] at hlook
      have e1 : (T.v (nm a)).num Ns = (.v (Ns.idxOf (nm a)), Ns) := if_pos hm
      rw [e1] at run
      refine ninDi ht (fun hno => by rw [show lookK (Ce.ref a).val (encN ad 0 Ns) = _ from hlook] at hno; cases hno) (fun d hd => ?_)
      tb_start
      refine subDi ht hlook ?_
      tb_start
      refine appOf hr (lim1 hl) ?_
      tb_start
      exact res (.v _) g4 hS hv run (by k_caught0) (by k_caught0) (by k_caught0) (by k_caught0) (by k_caught0)
    · rw [if_neg hm] at hlook
      have e1 : (T.v (nm a)).num Ns = (.v Ns.length, Ns ++ [nm a]) := if_neg hm
      rw [e1] at run
      refine ninDi ht (fun _ => ?_) (fun d hd => by rw [show lookK (Ce.ref a).val (encN ad 0 Ns) = _ from hlook] at hd; cases hd)
      have hgl : Ns.length ≤ 7 := pigeon 7 Ns hNs.1 fun q hq => by
        obtain ⟨b, h1, h2⟩ := hNs.2 q hq
        rw [← h2]; exact lt7 b h1
      have hput := put_encN (key := ad) (n := nm a) (i := 0) (L := Ns) fun q hq e => hm (hadj q hq e ▸ hq)
      rw [hna, Nat.zero_add] at hput
      tb_start
      refine ssDi ht (by rw [encN_len]; exact Nat.lt_of_le_of_lt hgl (by decide)) ?_
      have e : AO.di (putK (Ce.ref a).val (.int ((encN ad 0 Ns).length : Int)) (encN ad 0 Ns)) = .di (encN ad 0 (Ns ++ [nm a])) := by rw [encN_len]; exact congrArg AO.di hput
      rw [e]
      have hv5 := hv.upd 3 rfl (.di (encN ad 0 (Ns ++ [nm a])))
      have hS5 := hS.other (o := .di (encN ad 0 (Ns ++ [nm a]))) (dis tb (.tail _ (.tail _ (.tail _ (.head _)))))
      have g5 : Gr [w, rd, kd, tb] H2 (H4.set tb (.di (encN ad 0 (Ns ++ [nm a])))) := g4.tr (gr_mem (.tail _ (.tail _ (.tail _ (.head _)))))
      generalize H4.set tb (.di (encN ad 0 (Ns ++ [nm a]))) = H5 at hv5 hS5 g5 ⊢
      have hr5 := hv5.get 1 rfl
      have ht5 := hv5.get 3 rfl
      have hlook2 := look_encN (key := ad) (n := nm a) (i := 0) (L := Ns ++ [nm a]) fun q hq e => by
        rcases mem_snoc.mp hq with hq | rfl
        · exact hadj q hq e
        · rfl
      have hidx : (Ns ++ [nm a]).idxOf (nm a) = Ns.length := by rw [List.idxOf_append, if_neg hm, List.idxOf_cons_self, Nat.zero_add]
      rw [hna, Nat.zero_add, if_pos (mem_snoc.mpr (.inr rfl)), hidx] at hlook2
      tb_start
      refine subDi ht5 hlook2 ?_
      tb_start
      refine appOf hr5 (lim1 hl) ?_
      tb_start
      exact res (.v _) g5 hS5 hv5 run (by k_caught0) (by k_caught0) (by k_caught0) (by k_caught0) (by k_caught0)
  | con he hl run =>
    subst he
    refine ifDF (by show ¬ ((4 : Int) = 0); decide) ?_
    tb_start
    refine ifDT rfl ?_
    tb_start
    refine appOf hr (lim1 hl) ?_
    tb_start
    exact res (.a _) g4 hS hv run (by k_caught0) (by k_caught0) (by k_caught0) (by k_caught0) (by k_caught0)
  | int he hl run =>
    subst he
    refine ifDF (by show ¬ ((5 : Int) = 0); decide) ?_
    tb_start
    refine ifDF (by show ¬ ((5 : Int) = 4); decide) ?_
    tb_start
    refine ifDT rfl ?_
    tb_start
    refine appOf hr (lim1 hl) ?_
    tb_start
    exact res (.i _) g4 hS hv run (by k_caught0) (by k_caught0) (by k_caught0) (by k_caught0) (by k_caught0)
  | known tag hav hlk hl run =>
    rename_i a t
    have hlk2 : lookK (a : Int) (encKn kn) = some t.enc := by rw [look_encKn, hlk]; rfl
    refine ifDF (by omega) ?_
    tb_start
    refine ifDF (by omega) ?_
    tb_start
    refine ifDF (by omega) ?_
    tb_start
    rw [hav]
    refine inDi hk (fun d hd => ?_) (fun hd => by rw [hlk2] at hd; cases hd)
    tb_start
    rw [hav]
    refine subDi hk hlk2 ?_
    tb_start
    refine appOf hr (lim1 hl) ?_
    tb_start
    exact res t g4 hS hv run (by k_caught0) (by k_caught0) (by k_caught0) (by k_caught0) (by k_caught0)
  | exp tag hblk hav hlk hlkn hlts run =>
    rename_i a cs
    have hlk2 : lookK (a : Int) (encKn kn) = none := by rw [look_encKn, hlk]; rfl
    have hput : putK (a : Int) Dt.none (encKn kn) = encKn (putK a none kn) := put_encKn a none kn
    refine ifDF (by omega) ?_
    tb_start
    refine ifDF (by omega) ?_
    tb_start
    refine ifDF (by omega) ?_
    tb_start
    rw [hav]
    refine inDi hk (fun d hd => by rw [hlk2] at hd; cases hd) (fun _ => ?_)
    tb_start
    rw [hav]
    refine ssDi hk (by rw [encKn_len]; exact Nat.lt_trans hlkn (by decide)) ?_
    rw [hput]
    have hv5 := hv.upd 2 rfl (.di (encKn (putK a none kn)))
    have hS5 := hS.other (o := .di (encKn (putK a none kn))) (dis kd (.tail _ (.tail _ (.head _))))
    have g5 : Gr [w, rd, kd, tb] H2 (H4.set kd (.di (encKn (putK a none kn)))) := g4.tr (gr_mem (.tail _ (.tail _ (.head _))))
    generalize H4.set kd (.di (encKn (putK a none kn))) = H5 at hv5 hS5 g5 ⊢
    have hw5 := hv5.get 0 rfl
    tb_start
    refine appOf hw5 (by rw [List.length_map]; exact Nat.lt_trans hlts (by decide)) ?_
    have ets : ∀ (l : List (Bool × Ce)) (p : Bool × Ce), l.map encT ++ [encT p] = (l ++ [p]).map encT := fun l p => (List.map_append (l₂ := [p])).symm
    have hv6 := hv5.upd 0 rfl (.lst (ts.map encT ++ [encT (true, e)]))
    have hS6 := hS5.other (o := .lst (ts.map encT ++ [encT (true, e)])) (dis w (.head _))
    have g6 : Gr [w, rd, kd, tb] H2 (H5.set w (.lst (ts.map encT ++ [encT (true, e)]))) := g5.tr (gr_mem (.head _))
    show expQ _ _ (H5.set w (.lst (ts.map encT ++ [encT (true, e)])))
    generalize H5.set w (.lst (ts.map encT ++ [encT (true, e)])) = H6 at hv6 hS6 g6 ⊢
    rw [ets] at hv6
    tb_start
    refine base_spec O (k + 2) tag ?_
    tb_start
    refine width_spec O (k + 1) hS6 hblk ?_
    tb_start
    refine rngD (Nat.lt_of_le_of_lt hblk.len (by decide)) (VI A x ad w rd kd tb H2 e (ts ++ [(true, e)]) cs rs Ns (putK a none kn)) ⟨by k_caught0, by k_caught0, by k_caught0, by k_caught0, by k_caught0, by k_caught0, g6, hS6, by rw [List.take_zero, List.map_nil, List.append_nil]; exact hv6⟩ (fun i f H' hi I => ?_) (fun f H' I => ?_)
    · obtain ⟨f1, f2, f3, f4, f5, f6, g, h', hv'⟩ := I
      have hw' := hv'.get 0 rfl
      tb_start
      refine subOf (h'.hget (hblk.get (i := cs.length - 1 - i) (List.getElem?_eq_getElem (by omega)))) ?_
      tb_start
      refine appOf hw' (by rw [List.length_map, List.length_append, List.length_map, List.length_append, List.length_take, List.length_reverse, List.length_singleton]; have := hblk.len; have := lim_eq; omega) ?_
      tb_start
      refine ⟨by k_caught0, by k_caught0, by k_caught0, by k_caught0, by k_caught0, by k_caught0, g.tr (gr_mem (.head _)), h'.other (dis w (.head _)), ?_⟩
      have hv7 := hv'.upd 0 rfl (.lst (((ts ++ [(true, e)]) ++ (cs.reverse.take i).map fun d => (false, d)).map encT ++ [encT (false, cs[cs.length - 1 - i]'(by omega))]))
      rw [rev_take _ _ hi, List.map_append, ← List.append_assoc]
      show Hv ((tobjs ad w rd kd tb ((ts ++ [(true, e)]) ++ (cs.reverse.take i).map fun d => (false, d)) rs Ns (putK a none kn)).set 0 (w, .lst ((((ts ++ [(true, e)]) ++ (cs.reverse.take i).map fun d => (false, d)) ++ [(false, cs[cs.length - 1 - i]'(by omega))]).map encT))) _
      rw [← ets]
      exact hv7
    · obtain ⟨f1, f2, f3, f4, f5, f6, g, h', hv'⟩ := I
      rw [List.take_of_length_le (Nat.le_of_eq List.length_reverse)] at hv'
      tb_start
      exact ⟨m, by rw [hn]; exact Nat.lt_succ_self _, f1, f2, f3, f4, f5, g, h', hv', run⟩
end
theorem fnum_form {c : Ce} {x : Sx} {f : Nat} (h : c.fnum x.heap = some f) : (∃ a, c = .str a ∧ x.heap[a]? = some (.fn f)) ∨ (∃ a, c = .lis a ∧ f = 0) := (Ce.fnum_cases h).symm
section
variable {C : Nat → Oracle} {A : SA} {x0 x : Sx} {H : AH} {κ : Nat → T} {b : Nat} {L : Ly} {nm : Nat → Nat} {G : Val} {ad : Nat → Int} {Ns : List Nat}
noncomputable abbrev takeS : List IS := [
  .whl (.cmp .Gt (.len (.loc "work")) (.con (.int 0))) (
    .asg (.many ["what", "cell"]) (.mb (.loc "work") "pop" []) ::
    .ife (.cmp .Eq (.loc "what") (.con (.int 1))) [
      .asg (.one "f") (.met .store (.loc "self") "functor_of" [(.loc "cell")]),
      .asg (.one "first") (.bin .Sub (.len (.loc "results")) (.met .store (.loc "self") "width" [(.loc "cell")])),
      .asg (.one "term") (.tup [(.con (.str "s")), (.loc "f"), (.tupl (.slcL (.loc "results") (.loc "first")))]),
      .del (.loc "results") (.loc "first"),
      .ssub (.loc "known") (.sub (.loc "cell") (.con (.int 1))) (.loc "term"),
      .exp (.mb (.loc "results") "append" [(.loc "term")]),
      .cnt] [] ::
    .asg (.one "cell") (.met .store (.loc "self") "deref" [(.loc "cell")]) :: visitS),
  .ret (.sub (.loc "results") (.con (.int 0)))]
theorem take_ar0 {d : Nat} (h : d ≤ 100) : 0 + 3 * d ≤ 900 := by rw [Nat.zero_add]; exact Nat.mul_le_mul_left 3 (Nat.le_trans h (by decide : 100 ≤ 300))
set_option tactic.hygienic true in
theorem take_main (O : Orc C) (k : Nat) {e : Ce} {f : Frm} {w rd kd tb : Addr} {H2 : AH} {Q : Post} (h : StoreH A x H2) (S : TS x0 κ b x L nm G ad Ns) (he : L.cell e) (hnum : e.num < 1000000) (hdep : (G.of L.fn e).dep ≤ 100)
    (dis : ∀ a ∈ [w, rd, kd, tb], a ∉ A.all) (hv : Hv (tobjs ad w rd kd tb [(false, e)] [] Ns []) H2)
    (f1 : f "self" = some (.r A.s)) (f2 : f "table" = some (.r tb)) (f3 : f "known" = some (.r kd)) (f4 : f "results" = some (.r rd)) (f5 : f "work" = some (.r w))
    (q : ∀ H', Gr [w, rd, kd, tb] H2 H' → StoreH A x H' → NsOk nm x ((G.of L.fn e).num Ns).2 → H' tb = some (.di (encN ad 0 ((G.of L.fn e).num Ns).2)) → Q (.d ((G.of L.fn e).num Ns).1.enc) H') :
    Wxs (C (k + 3)) takeS f H2 (retQ Q) := by
  have g := S.gen
  have hN1 : NsOk nm x ((G.of L.fn e).num Ns).2 := nsok_num S.ns fun k hk => g.locell he (fun h1 => by
    obtain ⟨m, rfl⟩ := tag_srf h1
    have hnum : m + 1000000 < 1000000 := hnum
    exact absurd hnum (Nat.not_lt.mpr (Nat.le_add_left _ _))) hk
  obtain ⟨n, run⟩ : ∃ n, TkN nm x n [(false, e)] [] Ns [] ((G.of L.fn e).num Ns).1 ((G.of L.fn e).num Ns).2 :=
    take_ex (r := ((G.of L.fn e).num Ns).1) (Nf := ((G.of L.fn e).num Ns).2) S.wf g _ e [] [] Ns [] (Nat.lt_succ_self _) he hnum S.ns ⟨fun _ _ _ _ _ _ h => (nomatch h), List.nodup_nil, fun _ h => (nomatch h)⟩ (fun _ _ _ _ _ h => (nomatch h)) (take_ar0 hdep) (take_ar0 hdep) fun kn' _ _ _ => ⟨0, .done⟩
  generalize ((G.of L.fn e).num Ns).1 = r at run q
  generalize ((G.of L.fn e).num Ns).2 = Nf at run q hN1
  refine sWhl (TI A x nm ad w rd kd tb r Nf H2) n ⟨f1, f2, f3, f4, f5, Gr.refl _ _, h, hv, run⟩ fun n f H' I => ?_
  obtain ⟨f1, f2, f3, f4, f5, gg, st, hv, run⟩ := I
  rename_i ts rs Ns kn
  have hw := hv.get 0 rfl
  have hr := hv.get 1 rfl
  tb_start
  cases tk_inv run with
  | nil h1 h2 h3 =>
    subst h1 h2 h3
    refine ifDF (Int.lt_irrefl _) ?_
    tb_start
    refine subLst (n := 0) (d := r.enc) hr rfl ?_
    tb_start
    exact q H' gg st hN1 (hv.get 3 rfl)
  | snoc hts s =>
    rename_i us bb c
    subst hts
    have ets : (us ++ [(bb, c)]).map encT = us.map encT ++ [.tup [.int (if bb then 1 else 0), c.enc]] := List.map_append
    refine ifDT (by rw [List.length_map, List.length_append, List.length_singleton]; exact Int.ofNat_lt.mpr (Nat.succ_pos _)) ?_
    rw [ets] at hw
    have hv3 := hv.upd 0 rfl (.lst (us.map encT))
    have st3 := st.other (o := .lst (us.map encT)) (dis w (.head _))
    have g3 : Gr [w, rd, kd, tb] H2 (H'.set w (.lst (us.map encT))) := gg.tr (gr_mem (.head _))
    tb_start
    refine ePopC (ofLoc f5) hw ?_
    generalize H'.set w (.lst (us.map encT)) = H3 at hv3 st3 g3 ⊢
    tb_start
    cases s with
    | vis hn hb hd hV =>
      subst hb
      refine ifDF (by show ¬ ((0 : Int) = 1); decide) ?_
      tb_start
      refine deref_spec O (k + 2) st3 hd ?_
      exact take_visit O k dis S.had (fun a ha => g.lt7 _ ha) g3 st3 hv3 hV hn (by k_caught0) (by k_caught0) (by k_caught0) (by k_caught0) (by k_caught0) (by k_caught0)
    | bld hn hb hrs hblk hav hfn m1 m2 m3 m4 m5 m6 run2 =>
      rename_i m a fu rs0 as t cs
      subst hb hrs
      have hr3 := hv3.get 1 rfl
      refine ifDT rfl ?_
      tb_start
      refine functor_of_spec O (k + 2) st3 (fnum_form hfn) ?_
      tb_start
      refine width_spec O (k + 1) st3 hblk ?_
      have efirst : ((encs (rs0 ++ as)).length : Int) - (cs.length : Int) = (rs0.length : Int) := by rw [encs_len, List.length_append]; omega
      tb_start
      rw [efirst]
      refine eSlcLn (by k_caught0) hr3 (by k_caught0) (tuplNew fun y hy => ?_)
      have hdr : (encs (rs0 ++ as)).drop rs0.length = encs as := by rw [encs_app, List.drop_left' (encs_len _)]
      rw [hdr]
      have hv4 := (hv3.other (o := .lst (encs as)) (hv3.ne hy))
      have st4 := st3.new (o := .lst (encs as)) hy
      have g4 : Gr [w, rd, kd, tb] H2 (H3.set y (.lst (encs as))) := g3.tr (Gr.new hy).up0
      generalize H3.set y (.lst (encs as)) = H4 at hv4 st4 g4 ⊢
      have eterm : Dt.tup [.str (Str.ofString "s"), .int (fu : Int), .tup (encs as)] = t.enc := by rw [enc_s m1, m2, m3]
      tb_start
      rw [eterm]
      refine sDel (ofLoc (by k_caught0)) (by k_caught0) (hv4.get 1 rfl) ?_
      have htk : (encs (rs0 ++ as)).take rs0.length = encs rs0 := by rw [encs_app, List.take_left' (encs_len _)]
      rw [htk]
      have hv5 := hv4.upd 1 rfl (.lst (encs rs0))
      have st5 := st4.other (o := .lst (encs rs0)) (dis rd (.tail _ (.head _)))
      have g5 : Gr [w, rd, kd, tb] H2 (H4.set rd (.lst (encs rs0))) := g4.tr (gr_mem (.tail _ (.head _)))
      generalize H4.set rd (.lst (encs rs0)) = H5 at hv5 st5 g5 ⊢
      tb_start
      rw [hav]
      refine ssDi (hv5.get 2 rfl) (by rw [encKn_len]; exact Nat.lt_trans m5 (by decide)) ?_
      rw [show putK (a : Int) t.enc (encKn kn) = encKn (putK a (some t) kn) from put_encKn a (some t) kn]
      have hv6 := hv5.upd 2 rfl (.di (encKn (putK a (some t) kn)))
      have st6 := st5.other (o := .di (encKn (putK a (some t) kn))) (dis kd (.tail _ (.tail _ (.head _))))
      have g6 : Gr [w, rd, kd, tb] H2 (H5.set kd (.di (encKn (putK a (some t) kn)))) := g5.tr (gr_mem (.tail _ (.tail _ (.head _))))
      generalize H5.set kd (.di (encKn (putK a (some t) kn))) = H6 at hv6 st6 g6 ⊢
      have hr6 := hv6.get 1 rfl
      tb_start
      refine appOf hr6 (by rw [encs_len]; exact Nat.lt_trans m6 (by decide)) ?_
      have hv7 := hv6.upd 1 rfl (.lst (encs rs0 ++ [t.enc]))
      rw [encs_snoc] at hv7 ⊢
      tb_start
      exact ⟨m, by rw [hn]; exact Nat.lt_succ_self _, by k_caught0, by k_caught0, by k_caught0, by k_caught0, by k_caught0, g6.tr (gr_mem (.tail _ (.head _))), st6.other (dis rd (.tail _ (.head _))), hv7, run2⟩
theorem take_term_spec (O : Orc C) (k : Nat) {c : Ce} {tb : Addr} {Q : Post} (h : StoreH A x H) (S : TS x0 κ b x L nm G ad Ns) (hb : b < 900) (hc : L.cell c) (hsh : x.trail.length < 900) (hdep : (G.of L.fn c).dep ≤ 100) (htb : H tb = some (.di (encN ad 0 Ns))) (htA : tb ∉ A.all)
    (q : ∀ H' x' L' nm' G' ad', Gr (tb :: A.mut) H H' → StoreH A x' H' → TS x0 κ (b + 1) x' L' nm' G' ad' ((G.of L.fn c).num Ns).2 → H' tb = some (.di (encN ad' 0 ((G.of L.fn c).num Ns).2)) → x'.trail.length ≤ x.trail.length + 1 → Q (.d ((G.of L.fn c).num Ns).1.enc) H') :
    C (k + 5) (.me .store "take_term") [.r A.s, .d c.enc, .r tb] H Q := by
  refine intro3 O def_take_term (by decide) (by decide) (by decide) fun f f1 f2 f3 => ?_
  refine sAsg (dctI fun kd hkd => ?_)
  have hkA : kd ∉ A.all := h.ne hkd
  have hkt : kd ≠ tb := Ne.symm (ne_new htb hkd)
  have hv1 : Hv [(tb, .di (encN ad 0 Ns)), (kd, .di [])] (H.set kd (.di [])) := Hv.new (l := [(tb, .di (encN ad 0 Ns))]) ⟨List.nodup_cons.mpr ⟨fun z => (nomatch z), List.nodup_nil⟩, fun p hp => by rw [List.mem_singleton.mp hp]; exact htb⟩ hkd _
  have h1 := h.new (o := .di []) hkd
  have g1 : Gr [] H (H.set kd (.di [])) := Gr.new hkd
  show Wxs _ _ _ (H.set kd (.di [])) _
  generalize H.set kd (.di []) = H1 at hv1 h1 g1 ⊢
  tb_start
  intro rd hrd
  have hrA : rd ∉ A.all := h1.ne hrd
  have hv2 := hv1.new hrd (.lst [])
  have h2 := h1.new (o := .lst []) hrd
  have g2 : Gr [] H (H1.set rd (.lst [])) := g1.tr (Gr.new hrd)
  have nil : ∀ {a : Addr}, a ∉ ([] : List Addr) := fun z => (nomatch z)
  have hrn : H rd = none := g1.back hrd nil
  show Wxs _ _ _ (H1.set rd (.lst [])) _
  generalize H1.set rd (.lst []) = H2 at hv2 h2 g2 ⊢
  obtain ⟨j, e, hde, hce, hle, hend, hval⟩ := S.wf.der _ (Nat.lt_succ_self _) hc
  have hV := hval G S.gen.mod
  rw [hV] at q hdep
  have dis : ∀ a ∈ [tb, kd, rd], a ∉ A.all := List.forall_mem_cons.mpr ⟨htA, List.forall_mem_cons.mpr ⟨hkA, List.forall_mem_cons.mpr ⟨hrA, fun _ z => (nomatch z)⟩⟩⟩
  have rest : ∀ {H3 : AH} {x' : Sx} {L' : Ly} {nm' : Nat → Nat} {G' : Val} {ad' : Nat → Int} {e' : Ce}, Gr A.mut H2 H3 → StoreH A x' H3 → TS x0 κ (b + 1) x' L' nm' G' ad' Ns → encN ad' 0 Ns = encN ad 0 Ns → L'.cell e' → e'.num < 1000000 → G'.of L'.fn e' = G.of L.fn e → x'.trail.length ≤ x.trail.length + 1 →
      newO H3 (.lst [encT (false, e')]) (asgQ (C (k + 4)) "work" takeS ((f.put "known" (.r kd)).put "results" (.r rd)) (retQ Q)) := by
    intro H3 x' L' nm' G' ad' e' g3 h3 S' hen hce' hnum' hV' htr w hw
    have hv3 := (hv2.gr g3 fun b hb hm => dis b hb (SA.mut_sub hm)).new hw (.lst [encT (false, e')])
    have hwA : w ∉ A.all := h3.ne hw
    have hwn : H w = none := g2.back (g3.back hw fun hm => hwA (SA.mut_sub hm)) nil
    rw [← hV'] at q hdep
    rw [← hen] at hv3
    refine take_main O (k + 1) (h3.new hw) S' hce' hnum' hdep (List.forall_mem_cons.mpr ⟨hwA, List.forall_mem_cons.mpr ⟨hrA, List.forall_mem_cons.mpr ⟨hkA, List.forall_mem_cons.mpr ⟨htA, fun _ z => (nomatch z)⟩⟩⟩⟩)
      ⟨List.pairwise_reverse.mpr (hv3.nd.imp Ne.symm), fun p hp => hv3.at' p (List.mem_reverse.mp hp)⟩ (by k_caught0) (by k_caught0) (by k_caught0) (by k_caught0) (by k_caught0) fun H4 g4 h4 hN4 ht4 => ?_
    refine q H4 x' L' nm' G' ad' ?_ h4 ⟨S'.wf, S'.gen, S'.tr, S'.key, hN4, S'.had, S'.v5, S'.nb⟩ ht4 htr
    exact ((g2.up0.tr (g3.up fun y hy => .tail _ hy)).tr (Gr.new hw).up0).trans g4 (List.forall_mem_cons.mpr ⟨.inr hwn, List.forall_mem_cons.mpr ⟨.inr hrn, List.forall_mem_cons.mpr ⟨.inr hkd, List.forall_mem_cons.mpr ⟨.inl (.head _), fun _ z => (nomatch z)⟩⟩⟩⟩)
  have hnb := S.nb
  have hlt := S.wf.lt
  have hhl := S.wf.hl
  tb_start
  refine globalise_spec O (k + 1) h2 hde (by omega) (by omega) (fun ht => ?_) (fun m H3 hem g3 h3 => ?_) fun m hem => ?_
  · tb_start
    refine rest (Gr.refl _ _) h2 (S.up (Nat.le_succ b)) rfl hce ?_ rfl (Nat.le_succ _)
    cases e with
    | ref a => exact Nat.lt_of_lt_of_le hce.1 (Nat.le_trans hlt (by decide))
    | srf a => exact absurd rfl ht
    | _ => exact of_decide_eq_true rfl
  · subst hem
    have hat : x.at (.srf m) = some (.srf m) := hend.resolve_left (by decide : ¬ (2 : Int) ≤ 1)
    obtain ⟨L', nm', G', ad', S', hen, hcell, hGh, hat'⟩ := S.glob (by omega) hat
    tb_start
    refine rest g3 h3 S' hen hcell (show x.heap.length < 1000000 by omega) hGh ?_
    show (ite _ _ x.trail : List Int).length ≤ _
    split
    · exact Nat.le_of_eq List.length_append
    · exact Nat.le_succ _
  · subst hem
    rw [S.wf.sl]; exact hce
end
end
section
open PySem
noncomputable def lyOf (hp : List Ce) (K : List Nat) : Ly := ⟨hp.length, fun a => match hp[a]? with | some (.fn f) => some f | _ => none, K⟩
theorem lyOf_fn {hp : List Ce} {K : List Nat} (a f : Nat) : hp[a]? = some (.fn f) ↔ (lyOf hp K).fn a = some f := by
  simp only [lyOf]
  cases h : hp[a]? with
  | none => simp
  | some c => cases c <;> simp
theorem lyOf_vc {hp : List Ce} {K : List Nat} {a : Nat} : (lyOf hp K).vc a ↔ Nf hp a := by
  constructor
  · rintro ⟨h1, h2⟩
    have h1 : a < hp.length := h1
    refine ⟨hp[a], List.getElem?_eq_getElem h1, ?_⟩
    cases hc : hp[a] with
    | fn f =>
      have := (lyOf_fn (K := K) a f).mp (by rw [List.getElem?_eq_getElem h1, hc])
      rw [h2] at this; cases this
    | _ => trivial
  · rintro ⟨c, h1, h2⟩
    refine ⟨(List.getElem?_eq_some_iff.mp h1).1, ?_⟩
    cases hf : (lyOf hp K).fn a with
    | none => rfl
    | some f =>
      have := (lyOf_fn (K := K) a f).mpr hf
      rw [h1] at this; cases this; exact h2.elim
section
variable {hp : List Ce} {K : List Nat} {D : Nat → T}
theorem Loc.cell {c : Ce} {t : T} (B : Bd hp K D []) (h : Loc hp K D c t) : (lyOf hp K).cell c := by
  cases c with
  | ref n =>
    cases t <;> first | exact h.elim | skip
    exact lyOf_vc.mpr ⟨_, (B.first n h.2).1, trivial⟩
  | str b =>
    cases t with
    | u t =>
      obtain ⟨h1, h2, h3, h4⟩ := h
      exact ⟨h1, .inl ⟨(lyOf_fn b 12).mp h2, lyOf_vc.mpr h3⟩⟩
    | b d s t =>
      cases d with
      | true => exact h.elim
      | false =>
        obtain ⟨h1, h2, ⟨h3, h4⟩, h5, h6⟩ := h
        exact ⟨h1, .inr ⟨(lyOf_fn b 13).mp h2, lyOf_vc.mpr h3, lyOf_vc.mpr h5⟩⟩
    | _ => exact h.elim
  | lis b =>
    cases t with
    | b d s t =>
      cases d with
      | false => exact h.elim
      | true =>
        obtain ⟨h1, ⟨h3, h4⟩, h5, h6⟩ := h
        exact ⟨h1, lyOf_vc.mpr h3, lyOf_vc.mpr h5⟩
    | _ => exact h.elim
  | srf n => exact h.elim
  | con n => trivial
  | int n => trivial
  | fn n => exact h.elim
noncomputable def gOf (D : Nat → T) : Val := ⟨D, fun i => .v (5 + i)⟩
theorem Loc.val {c : Ce} {t : T} (B : Bd hp K D []) (h : Loc hp K D c t) : (gOf D).of (lyOf hp K).fn c = t := by
  cases c with
  | ref n =>
    cases t <;> first | exact h.elim | skip
    rw [← h.1]; exact (B.first n h.2).2
  | str b =>
    cases t with
    | u t =>
      obtain ⟨h1, h2, h3, h4⟩ := h
      rw [of_str12 ((lyOf_fn b 12).mp h2)]
      show T.u (D (b + 1)) = _
      rw [h4]
    | b d s t =>
      cases d with
      | true => exact h.elim
      | false =>
        obtain ⟨h1, h2, ⟨h3, h4⟩, h5, h6⟩ := h
        rw [of_str13 ((lyOf_fn b 13).mp h2)]
        show T.b false (D (b + 1)) (D (b + 2)) = _
        rw [h4, h6]
    | _ => exact h.elim
  | lis b =>
    cases t with
    | b d s t =>
      cases d with
      | false => exact h.elim
      | true =>
        obtain ⟨h1, ⟨h3, h4⟩, h5, h6⟩ := h
        rw [of_lis]
        show T.b true (D b) (D (b + 1)) = _
        rw [h4, h6]
    | _ => exact h.elim
  | srf n => exact h.elim
  | con n => cases t <;> first | exact h.elim | (rw [show n = _ from h]; rfl)
  | int n => cases t <;> first | exact h.elim | (rw [show n = _ from h]; rfl)
  | fn n => exact h.elim
theorem built_at {x : Sx} (B : Bd hp K D []) (hx : x.heap = hp) (hs : x.stack = [.srf 0, .srf 1]) {c d : Ce} (h : x.at c = some d) : (∃ a, c = .ref a ∧ Nf hp a ∧ Loc hp K D d (D a)) ∨ (∃ i, c = .srf i ∧ i < 2 ∧ d = .srf i) := by
  cases c with
  | ref a =>
    have hh := Sx.at_ref.mp h
    rw [hx] at hh
    rcases B.fil a d hh.1 hh.2 with hl | hm
    · exact .inl ⟨a, rfl, ⟨d, hh.1, hh.2⟩, hl⟩
    · cases hm
  | srf i =>
    have hh := Sx.at_srf.mp h
    rw [hs] at hh
    match i with
    | 0 => cases hh; exact .inr ⟨0, rfl, by omega, rfl⟩
    | 1 => cases hh; exact .inr ⟨1, rfl, by omega, rfl⟩
    | n + 2 => simp at hh
  | _ => cases h
theorem built_wf {x : Sx} (B : Bd hp K D []) (hx : x.heap = hp) (hs : x.stack = [.srf 0, .srf 1]) (hl : hp.length ≤ 1000) (hk : K.length ≤ 28) : WF (lyOf hp K) x := by
  refine ⟨by rw [hx]; rfl, by rw [hs]; rfl, hl, hk, fun a f => by rw [hx]; exact lyOf_fn a f, fun c d h => ?_⟩
  rcases built_at B hx hs h with ⟨a, rfl, hn, hL⟩ | ⟨i, rfl, hi, rfl⟩
  · refine ⟨hL.cell B, ?_⟩
    have hh := (Sx.at_ref.mp h).1
    rw [hx] at hh
    cases d with
    | ref n =>
      show n ≤ a
      by_cases h5 : a < 5
      · rw [(B.first a h5).1] at hh; cases hh; exact Nat.le_refl _
      · have : n < 5 := by
          cases hD : D a <;> rw [hD] at hL <;> first | exact hL.elim | exact hL.2
        exact Nat.le_trans (Nat.le_of_lt this) (Nat.not_lt.mp h5)
    | srf n => exact hL.elim
    | _ => exact Nat.zero_le _
  · exact ⟨hi, Nat.le_refl _⟩
theorem built_gen {x : Sx} (B : Bd hp K D []) (hx : x.heap = hp) (hs : x.stack = [.srf 0, .srf 1]) (hl : hp.length ≤ 1000) (hk : K.length ≤ 28) : Gen (lyOf hp K) id x (gOf D) := by
  have hun : ∀ c, x.at c = some c → (∃ n, c = .ref n ∧ n < 5 ∧ D n = .v n) ∨ (∃ i, c = .srf i ∧ i < 2) := fun c h => by
    rcases built_at B hx hs h with ⟨a, rfl, hn, hL⟩ | ⟨i, rfl, hi, _⟩
    · cases hD : D a <;> rw [hD] at hL <;> first | exact hL.elim | skip
      exact .inl ⟨a, rfl, hL.2, by rw [hD, ← hL.1]⟩
    · exact .inr ⟨i, rfl, hi⟩
  have hfirst : ∀ n, n < 5 → x.at (.ref n) = some (.ref n) := fun n hn => Sx.at_ref.mpr ⟨by rw [hx]; exact (B.first n hn).1, trivial⟩
  have hlo : ∀ {t : T} {k : Nat}, t.lo 5 → t.occ k → k < 5 := by
    intro t
    induction t with
    | v n => intro k h1 h2; have : n = k := h2; subst this; exact h1
    | a n => intro k _ h2; exact h2.elim
    | i n => intro k _ h2; exact h2.elim
    | u t ih => intro k h1 h2; exact ih h1 h2
    | b d s t ih1 ih2 => intro k h1 h2; rcases h2 with h2 | h2; exact ih1 h1.1 h2; exact ih2 h1.2 h2
  refine ⟨fun c d h => ?_, fun c h => ?_, fun c h => ?_, fun c d hc hd he => ?_, fun a ha k hk => ?_, fun m hm c hc => ?_⟩
  · rcases built_at B hx hs h with ⟨a, rfl, hn, hL⟩ | ⟨i, rfl, hi, rfl⟩
    · rw [hL.val B]; rfl
    · rfl
  · rcases hun c h with ⟨n, rfl, hn, hD⟩ | ⟨i, rfl, hi⟩
    · exact hD
    · rfl
  · rcases hun c h with ⟨n, rfl, hn, hD⟩ | ⟨i, rfl, hi⟩
    · exact Nat.lt_trans hn (by decide)
    · exact Nat.add_lt_add_left hi 5
  · rcases hun c hc with ⟨n, rfl, hn, hD⟩ | ⟨i, rfl, hi⟩
    · rcases hun d hd with ⟨n', rfl, hn', hD'⟩ | ⟨i', rfl, hi'⟩
      · have : n = n' := he
        rw [this]
      · have : n = 5 + i' := he
        exact absurd hn (Nat.not_lt.mpr (this ▸ Nat.le_add_right 5 i'))
    · rcases hun d hd with ⟨n', rfl, hn', hD'⟩ | ⟨i', rfl, hi'⟩
      · have : 5 + i = n' := he
        exact absurd hn' (Nat.not_lt.mpr (this ▸ Nat.le_add_right 5 i))
      · have : 5 + i = 5 + i' := he
        rw [Nat.add_left_cancel this]
  · have h5 : k < 5 := hlo (B.dlo a (lyOf_vc.mp ha)) hk
    exact ⟨k, hfirst k h5, rfl⟩
  · have hh : ∀ (N : Nat) (a : Nat), (D a).sz < N → (lyOf hp K).vc a → m.h a = (D a).sub m.key := by
      intro N
      induction N with
      | zero => intro a h; cases h
      | succ N ih =>
        intro a hN ha
        obtain ⟨d, hd, hdf⟩ := lyOf_vc.mp ha
        have hat : x.at (.ref a) = some d := Sx.at_ref.mpr ⟨by rw [hx]; exact hd, hdf⟩
        have hma : m.h a = m.of (lyOf hp K).fn d := hm _ _ hat
        rw [hma]
        rcases B.fil a d hd hdf with hL | hmm
        · have sub : ∀ b, Nf hp b → (D b).sz < (D a).sz → m.h b = (D b).sub m.key := fun b hb hlt => ih b (by omega) (lyOf_vc.mpr hb)
          cases d with
          | ref n =>
            cases hD : D a <;> rw [hD] at hL <;> first | exact hL.elim | skip
            have hn : n < 5 := hL.2
            rw [← hL.1]
            show m.h n = m.key n
            exact (if_pos hn).symm
          | str b =>
            cases hD : D a with
            | u t =>
              rw [hD] at hL
              obtain ⟨h1, h2, h3, h4⟩ := hL
              rw [of_str12 ((lyOf_fn b 12).mp h2)]
              show T.u (m.h (b + 1)) = T.u (t.sub _)
              rw [← h4, sub _ h3 (by rw [hD, h4]; simp [T.sz])]
            | b dd s t =>
              rw [hD] at hL
              cases dd with
              | true => exact hL.elim
              | false =>
                obtain ⟨h1, h2, ⟨h3, h4⟩, h5, h6⟩ := hL
                rw [of_str13 ((lyOf_fn b 13).mp h2)]
                show T.b false (m.h (b + 1)) (m.h (b + 2)) = T.b false (s.sub _) (t.sub _)
                rw [← h4, ← h6, sub _ h3 (by rw [hD, h4]; simp only [T.sz]; omega), sub _ h5 (by rw [hD, h6]; simp only [T.sz]; omega)]
            | _ => rw [hD] at hL; exact hL.elim
          | lis b =>
            cases hD : D a with
            | b dd s t =>
              rw [hD] at hL
              cases dd with
              | false => exact hL.elim
              | true =>
                obtain ⟨h1, ⟨h3, h4⟩, h5, h6⟩ := hL
                rw [of_lis]
                show T.b true (m.h b) (m.h (b + 1)) = T.b true (s.sub _) (t.sub _)
                rw [← h4, ← h6, sub _ h3 (by rw [hD, h4]; simp only [T.sz]; omega), sub _ h5 (by rw [hD, h6]; simp only [T.sz]; omega)]
            | _ => rw [hD] at hL; exact hL.elim
          | con n => cases hD : D a <;> rw [hD] at hL <;> first | exact hL.elim | (rw [show n = _ from hL]; rfl)
          | int n => cases hD : D a <;> rw [hD] at hL <;> first | exact hL.elim | (rw [show n = _ from hL]; rfl)
          | srf n => exact hL.elim
          | fn n => exact hL.elim
        · cases hmm
    refine gen_of (fun a ha => hh _ a (Nat.lt_succ_self _) ha) (fun i hi => ?_) hc
    show m.s i = m.key (5 + i)
    simp only [Val.key]
    rw [if_neg (by omega), Nat.add_sub_cancel_left]
end
section
variable {L : Ly} {nm : Nat → Nat} {x : Sx} {G : Val}
theorem Mod.subst (h : Mod L x G) (σ : Nat → T) : Mod L x (G.sub σ) := fun c d hcd => by rw [Val.sub_of, Val.sub_of, h c d hcd]
theorem dep_le_sub {σ : Nat → T} : ∀ t : T, t.dep ≤ (t.sub σ).dep
  | .v n => Nat.zero_le _
  | .a n => Nat.zero_le _
  | .i n => Nat.zero_le _
  | .u t => by
    have := dep_le_sub (σ := σ) t
    simp only [T.sub, T.dep]; omega
  | .b d s t => by
    have h1 := dep_le_sub (σ := σ) s
    have h2 := dep_le_sub (σ := σ) t
    simp only [T.sub, T.dep]; omega
structure EqC (L : Ly) (G : Val) (c1 c2 : Ce) (p : T × T) : Prop where
  l1 : L.cell c1
  l2 : L.cell c2
  v1 : G.of L.fn c1 = p.1
  v2 : G.of L.fn c2 = p.2
theorem EqC.iff {c1 c2 : Ce} {p : T × T} (e : EqC L G c1 c2 p) (g : Gen L nm x G) {m : Val} (hm : Mod L x m) : m.of L.fn c1 = m.of L.fn c2 ↔ p.1.sub m.key = p.2.sub m.key := by
  rw [g.gen m hm c1 e.l1, g.gen m hm c2 e.l2, e.v1, e.v2]
theorem solvesE_one {θ : Nat → T} {p : T × T} : SolvesE θ [p] ↔ p.1.sub θ = p.2.sub θ := by simp [SolvesE]
theorem GS.solves {E : List (T × T)} {B : List (Nat × T)} {δ : Nat → T} (h : GS E B [] δ) : SolvesE δ E := (h.mg.eqv δ).mpr ⟨h.mg.bound, fun p hp => nomatch hp⟩
end
theorem num_dep : ∀ (t : T) (L : List Nat), (t.num L).1.dep = t.dep
  | .v n, L => by unfold T.num; split <;> rfl
  | .a n, L => rfl
  | .i n, L => rfl
  | .u t, L => by simp only [T.num, T.dep, num_dep t L]
  | .b d s t, L => by simp only [T.num, T.dep, num_dep s L, num_dep t (s.num L).2]
theorem nums_dep {D : Nat} : ∀ {ts : List T} {L : List Nat}, (∀ t ∈ ts, t.dep ≤ D) → ∀ t ∈ (nums ts L).1, t.dep ≤ D
  | [], L, _, t, ht => nomatch ht
  | s :: ts, L, h, t, ht => by
    rcases List.mem_cons.mp ht with rfl | ht
    · rw [num_dep]; exact h s List.mem_cons_self
    · exact nums_dep (ts := ts) (fun u hu => h u (List.mem_cons_of_mem _ hu)) t ht
noncomputable def nk (κ : Nat → T) (i : Nat) : List T × List Nat := nums ((List.range i).map κ) []
theorem nk_succ (κ : Nat → T) (i : Nat) : nk κ (i + 1) = ((nk κ i).1 ++ [((κ i).num (nk κ i).2).1], ((κ i).num (nk κ i).2).2) := by
  unfold nk
  rw [List.range_succ, List.map_append, List.map_cons, List.map_nil, nums_snoc]
section
variable {hp : List Ce} {K : List Nat} {D : Nat → T} {x2 x' : Sx} {G' : Val} {E : List (T × T)} {Bt : List (Nat × T)} {δ : Nat → T}
noncomputable def cellOf (k : Nat) : Ce := if k < 5 then .ref k else .srf (k - 5)
theorem cellOf_cell (B : Bd hp K D []) {k : Nat} (h : k < 7) : (lyOf hp K).cell (cellOf k) := by
  unfold cellOf
  by_cases h5 : k < 5
  · rw [if_pos h5]; exact lyOf_vc.mpr ⟨_, (B.first k h5).1, trivial⟩
  · rw [if_neg h5]; show k - 5 < 2; omega
theorem key_cell {F : Nat → Option Nat} (G : Val) (k : Nat) : G.key k = G.of F (cellOf k) := by
  unfold cellOf
  simp only [Val.key]
  by_cases h5 : k < 5
  · rw [if_pos h5, if_pos h5]; rfl
  · rw [if_neg h5, if_neg h5]; rfl
theorem twins (B : Bd hp K D []) (hkey : ∀ θ, ((gOf D).sub θ).key = θ) (g2 : Mod (lyOf hp K) x2 (gOf D)) (g : Gen (lyOf hp K) id x' G') (hmod : ∀ m, Mod (lyOf hp K) x' m ↔ Mod (lyOf hp K) x2 m ∧ SolvesE m.key E) (hG : GS E Bt [] δ) :
    ∀ k, k < 7 → (δ k).sub G'.key = G'.key k ∧ (G'.key k).sub δ = δ k := by
  intro k hk
  have hs := ((hmod G').mp g.mod).2
  obtain ⟨hB, _⟩ := (hG.mg.eqv G'.key).mp hs
  refine ⟨hG.mg.gen _ hB k, ?_⟩
  have hm : Mod (lyOf hp K) x' ((gOf D).sub δ) := (hmod _).mpr ⟨g2.subst δ, by rw [hkey]; exact hG.solves⟩
  have := g.gen _ hm (cellOf k) (cellOf_cell B hk)
  rw [← key_cell, ← key_cell, hkey] at this
  exact this.symm
theorem nk_twin {κ : Nat → T} (h : ∀ k, k < 7 → (δ k).sub κ = κ k ∧ (κ k).sub δ = δ k) : (nk δ 7).1 = (nk κ 7).1 := by
  unfold nk
  refine nums_twin (σ := κ) (τ := δ) ?_ ?_ ⟨rfl, rfl⟩
  · rw [List.map_map]
    exact List.map_congr_left fun k hk => (h k (List.mem_range.mp hk)).1
  · rw [List.map_map]
    exact List.map_congr_left fun k hk => (h k (List.mem_range.mp hk)).2
theorem GS.dep21 (hG : GS E Bt [] δ) (k : Nat) : (δ k).dep ≤ 21 := by
  have h1 := hG.mg.dep k
  have h2 := hG.blen
  omega
theorem twin_dep {κ : Nat → T} (hG : GS E Bt [] δ) (h : ∀ k, k < 7 → (δ k).sub κ = κ k ∧ (κ k).sub δ = δ k) {k : Nat} (hk : k < 7) : (κ k).dep ≤ 21 := by
  have h1 := dep_le_sub (σ := δ) (κ k)
  rw [(h k hk).2] at h1
  have := hG.dep21 k
  omega
theorem TS.start {x0 : Sx} (B : Bd hp K D []) (W : WF (lyOf hp K) x') (g : Gen (lyOf hp K) id x' G') (t : Tr x0 x') {b : Nat} (hb : hp.length ≤ b) : TS x0 G'.key b x' (lyOf hp K) id G' (fun k => (k : Int)) [] :=
  ⟨W, g, t, fun _ _ => rfl, ⟨List.nodup_nil, fun _ h => nomatch h⟩, fun a _ => rfl, fun a ha => lyOf_vc.mpr ⟨_, (B.first a ha).1, trivial⟩, hb⟩
end
end
section
open PySem PySem.W PyProof.Rows
noncomputable def AO.isDi : AO → Bool
  | .di _ => true
  | _ => false
theorem StoreH.not_di {A : SA} {x : Sx} {H : AH} (h : StoreH A x H) {d : Addr} {es : List (Int × Dt)} (hd : H d = some (.di es)) : d ∉ A.all := by
  obtain ⟨tx, an, nf, fs, hv⟩ := h.hv
  intro hm
  obtain ⟨p, hp, e⟩ := List.mem_map.mp (show d ∈ (A.objs x tx an nf fs).map (·.1) from hm)
  have hq := hv.at' p hp
  rw [e, hd] at hq
  have h2 := List.all_eq_true.mp (show (A.objs x tx an nf fs).all (fun p => !p.2.isDi) = true from rfl) p hp
  rw [← Option.some.inj hq] at h2
  cases h2
noncomputable abbrev x2Of (hp : List Ce) (hbv low : Nat) : Sx := ⟨hp, [.srf 0, .srf 1], [], (hbv : Int), (low : Int)⟩
noncomputable abbrev endS : List IS := [
  .exp (.met .store (.loc "store") "undo_to" [(.loc "mark")]),
  .exp (.met .store (.loc "store") "trim" [(.att (.loc "store") "hb")]),
  .ret (.andE (.cmp .Eq (.att (.loc "store") "heap") (.slcH (.loc "heap") (.att (.loc "store") "hb"))) (.andE (.cmp .Eq (.slcH (.att (.loc "store") "stack") (.loc "low")) (.slcH (.loc "stack") (.loc "low"))) (.cmp .Eq (.att (.loc "store") "trail") (.lst []))))]
section
variable {C : Nat → Oracle} {H : AH} {A : SA}
theorem encC_take (l : List Ce) (n : Nat) : (encC l).take n = encC (l.take n) := List.map_take.symm
theorem Tr.inH {x0 x : Sx} (t : Tr x0 x) {n : Nat} (h : (n : Int) ∈ x.trail) : x0.heap[n]? = some (.ref n) := by
  rcases t.ent _ h with ⟨m, e, hh, _⟩ | ⟨m, e, _⟩
  · rw [Int.ofNat.inj e]; exact hh
  · omega
theorem Tr.inS {x0 x : Sx} (t : Tr x0 x) {n : Nat} (h : -1 - (n : Int) ∈ x.trail) : x0.stack[n]? = some (.srf n) := by
  rcases t.ent _ h with ⟨m, e, _⟩ | ⟨m, e, hh, _⟩
  · omega
  · rw [show n = m by omega]; exact hh
theorem some_lt {α : Type} {l : List α} {n : Nat} {a : α} (h : l[n]? = some a) : n < l.length := (List.getElem?_eq_some_iff.mp h).1
theorem right_end (O : Orc C) (k : Nat) {x : Sx} {hp : List Ce} {hbv low : Nat} {hc sc : Addr} {f : Frm} {Q : Post} (h : StoreH A x H) (t : Tr (x2Of hp hbv low) x) (hhb : hbv ≤ hp.length) (hhc : H hc = some (.lst (encC hp))) (hsc : H sc = some (.lst (encC [.srf 0, .srf 1]))) (hcA : hc ∉ A.all) (scA : sc ∉ A.all)
    (f1 : f "store" = some (.r A.s)) (f2 : f "mark" = some (.d (.int 0))) (f3 : f "heap" = some (.r hc)) (f4 : f "stack" = some (.r sc)) (f5 : f "low" = some (.d (.int (low : Int))))
    (q : ∀ H', Gr A.mut H H' → Q (.d (.bool true)) H') : Wxs (C (k + 1)) endS f H (retQ Q) := by
  have hxl : hp.length ≤ x.heap.length := t.hl
  have hsl : x.stack.length = 2 := t.sl
  tb_start
  refine undo_spec O k h (fun n hn => Nat.lt_of_lt_of_le (some_lt (t.inH hn)) hxl) (fun n hn => hsl ▸ some_lt (t.inS hn)) fun H2 hp' st g2 h2 l1 l2 p1 p2 => ?_
  have ehp : hp'.take hbv = hp.take hbv := by
    refine List.ext_getElem? fun n => ?_
    rw [List.getElem?_take, List.getElem?_take]
    split
    · rename_i hn
      have hn1 := Nat.lt_of_lt_of_le hn hhb
      obtain ⟨a, b⟩ := p1 n (Nat.lt_of_lt_of_le hn1 hxl)
      by_cases hmm : (n : Int) ∈ x.trail
      · exact (a hmm).trans (t.inH hmm).symm
      · exact (b hmm).trans (Classical.byContradiction fun hne => hmm ((t.hk n hn1 hne).2 (by rw [t.hb]; exact Int.ofNat_lt.mpr hn)))
    · rfl
  have est : st.take low = [Ce.srf 0, Ce.srf 1].take low := by
    refine List.ext_getElem? fun n => ?_
    rw [List.getElem?_take, List.getElem?_take]
    split
    · rename_i hn
      rcases Nat.lt_or_ge n 2 with h2' | h2'
      · obtain ⟨a, b⟩ := p2 n (by rw [hsl]; exact h2')
        by_cases hmm : -1 - (n : Int) ∈ x.trail
        · exact (a hmm).trans (t.inS hmm).symm
        · exact (b hmm).trans (Classical.byContradiction fun hne => hmm ((t.sk n hne).2 (by rw [t.bb]; exact Int.ofNat_lt.mpr hn)))
      · rw [List.getElem?_eq_none (by rw [l2, hsl]; exact h2'), List.getElem?_eq_none h2']
    · rfl
  tb_start
  rw [show x.hb = (hbv : Int) from t.hb]
  refine trim_spec O k (n := hbv) h2 fun H3 g3 h3 => ?_
  have h3 : StoreH A ⟨hp'.take hbv, st, [], x.hb, x.bb⟩ H3 := h3
  rw [ehp] at h3
  have hcM : hc ∉ A.mut := fun hm => hcA (SA.mut_sub hm)
  have scM : sc ∉ A.mut := fun hm => scA (SA.mut_sub hm)
  have hc3 := g3 hc _ hcM (g2 hc _ hcM hhc)
  have sc3 := g3 sc _ scM (g2 sc _ scM hsc)
  tb_start
  refine eSlcH (ofLoc f3) hc3 (fun R q => eHb h3 f1 (by rw [show x.hb = (hbv : Int) from t.hb]; exact q)) fun a ha => ?_
  rw [encC_take]
  have h4 := h3.new (o := .lst (encC (hp.take hbv))) ha
  have sc4 := keep_new (o' := .lst (encC (hp.take hbv))) sc3 ha
  have g4 : Gr A.mut H (H3.set a (.lst (encC (hp.take hbv)))) := (g2.tr g3).tr (Gr.new ha).up0
  refine cEqL h4.ha (set_at _ _ _) (encC_oks _) ?_
  generalize H3.set a (.lst (encC (hp.take hbv))) = H4 at h4 sc4 g4 ⊢
  tb_start
  refine eSlcH (ofAtt f1 (h4.att (lf_stack A _ _))) h4.sa (ofLoc f5) fun b hb => ?_
  rw [encC_take]
  have h5 := h4.new (o := .lst (encC (st.take low))) hb
  have sc5 := keep_new (o' := .lst (encC (st.take low))) sc4 hb
  have hb5 := set_at H4 b (.lst (encC (st.take low)))
  have g5 : Gr A.mut H (H4.set b (.lst (encC (st.take low)))) := g4.tr (Gr.new hb).up0
  show We _ _ _ (H4.set b (.lst (encC (st.take low)))) _
  generalize H4.set b (.lst (encC (st.take low))) = H5 at h5 sc5 hb5 g5 ⊢
  refine eSlcH (ofLoc f4) sc5 (ofLoc f5) fun c hc' => ?_
  rw [encC_take]
  have h6 := h5.new (o := .lst (encC ([Ce.srf 0, Ce.srf 1].take low))) hc'
  have hb6 := keep_new (o' := .lst (encC ([Ce.srf 0, Ce.srf 1].take low))) hb5 hc'
  rw [est] at hb6
  have g6 : Gr A.mut H (H5.set c (.lst (encC ([Ce.srf 0, Ce.srf 1].take low)))) := g5.tr (Gr.new hc').up0
  refine cEqL hb6 (set_at _ _ _) (encC_oks _) ?_
  generalize H5.set c (.lst (encC ([Ce.srf 0, Ce.srf 1].take low))) = H6 at h6 g6 ⊢
  tb_start
  intro d hd
  have h7 := h6.new (o := .lst []) hd
  exact cEqL h7.ta (set_at H6 d (.lst [])) oks_nil (q _ (g6.tr (Gr.new hd).up0))
end
theorem nk_len (κ : Nat → T) : ∀ i, (nk κ i).1.length = i
  | 0 => rfl
  | i + 1 => by rw [nk_succ, List.length_append, nk_len κ i]; rfl
inductive VT (A : SA) (x0 : Sx) (κ : Nat → T) (nb : Addr) (H : AH) (i : Nat) (H' : AH) : Prop
  | mk {x' : Sx} {L' : Ly} {nm' : Nat → Nat} {G' : Val} {ad' : Nat → Int} (gr : Gr (nb :: A.mut) H H') (st : StoreH A x' H') (S : TS x0 κ (90 + i) x' L' nm' G' ad' (nk κ i).2) (hn : H' nb = some (.di (encN ad' 0 (nk κ i).2))) : VT A x0 κ nb H i H'
inductive VA (A : SA) (x0 : Sx) (κ : Nat → T) (nb : Addr) (H : AH) (i : Nat) (acc : List Dt) (H' : AH) : Prop
  | mk (v : VT A x0 κ nb H i H') (e : acc = encs (nk κ i).1) : VA A x0 κ nb H i acc H'
inductive VB (A : SA) (x0 : Sx) (κ : Nat → T) (nb va : Addr) (H : AH) (i : Nat) (acc : List Dt) (H' : AH) : Prop
  | mk {rest : List T} (v : VT A x0 κ nb H (5 + i) H') (hva : H' va = some (.lst (encs (nk κ 5).1))) (e : acc = encs rest) (hl : rest.length = i) (hr : (nk κ (5 + i)).1 = (nk κ 5).1 ++ rest) : VB A x0 κ nb va H i acc H'
inductive VC (δ : Nat → T) (nm : Addr) (H : AH) (i : Nat) (acc : List Dt) (H' : AH) : Prop
  | mk (g : Gr [nm] H H') (hn : H' nm = some (.di (encN nkey 0 (nk δ i).2))) (hL : GoodL (nk δ i).2) (e : acc = encs (nk δ i).1) : VC δ nm H i acc H'
section
variable {C : Nat → Oracle} {H H' : AH} {A : SA} {x0 : Sx} {κ : Nat → T} {nb : Addr} {i : Nat}
theorem VT.new (V : VT A x0 κ nb H i H') {a : Addr} (ha : H' a = none) (o : AO) : VT A x0 κ nb H i (H'.set a o) := by
  cases V with
  | mk gr st S hn => exact ⟨gr.tr (Gr.new ha).up0, st.new ha, S, keep_new hn ha⟩
theorem VT.ne (V : VT A x0 κ nb H i H') {a : Addr} (ha : H' a = none) : a ∉ nb :: A.mut := by
  cases V with
  | mk gr st S hn => exact fun hm => (List.mem_cons.mp hm).elim (fun e => by rw [← e, ha] at hn; cases hn) fun hm => st.ne ha (SA.mut_sub hm)
theorem VT.gr (V : VT A x0 κ nb H i H') : Gr (nb :: A.mut) H H' := by cases V with | mk gr _ _ _ => exact gr
set_option tactic.hygienic true in
theorem take_step (O : Orc C) (k : Nat) {Q : Post} (V : VT A x0 κ nb H i H') (hi : i < 7) (hnA : nb ∉ A.all) (hu5 : ∀ n : Nat, x0.heap[n]? = some (.ref n) → n < 5) (hsl : x0.stack.length = 2) (hdep : (κ i).dep ≤ 21)
    (q : ∀ H2, Gr (nb :: A.mut) H' H2 → VT A x0 κ nb H (i + 1) H2 → Q (.d ((κ i).num (nk κ i).2).1.enc) H2) : C (k + 5) (.me .store "take_term") [.r A.s, .d (cellOf i).enc, .r nb] H' Q := by
  obtain ⟨g, h, S, hn⟩ := V
  rename_i x' L' nm' G' ad'
  have hval : G'.of L'.fn (cellOf i) = κ i := by rw [← key_cell]; exact S.key i hi
  have hcell : L'.cell (cellOf i) := by
    unfold cellOf
    by_cases h5 : i < 5
    · rw [if_pos h5]; exact S.v5 i h5
    · rw [if_neg h5]; show i - 5 < 2; omega
  have hsh := S.tr.short hu5 hsl
  refine take_term_spec O k h S (by omega) hcell (by omega) (by rw [hval]; exact Nat.le_trans hdep (by decide)) hn hnA fun H2 x2 L2 nm2 G2 ad2 g2 h2 S2 hn2 _ => ?_
  rw [hval] at S2 hn2 ⊢
  rw [show ((κ i).num (nk κ i).2).2 = (nk κ (i + 1)).2 by rw [nk_succ]] at S2 hn2
  exact q H2 g2 ⟨g.tr g2, h2, S2, hn2⟩
end
noncomputable abbrev valS : List IS := [
    .asg (.one "numbers") .dct,
    .asg (.one "values") (.lcR (.met .store (.loc "store") "take_term" [(.tup [(.con (.int 0)), (.loc "k")]), (.loc "numbers")]) "k" (.con (.int 5)) ["numbers", "store"]),
    .aug "values" .Add (.lcR (.met .store (.loc "store") "take_term" [(.tup [(.con (.int 1)), (.loc "place")]), (.loc "numbers")]) "place" (.con (.int 2)) ["numbers", "store"]),
    .asg (.one "names") .dct,
    .ife (.cmp .NotEq (.loc "values") (.lcR (.fn "_law_whole" [(.tup [(.con (.str "v")), (.loc "k")]), (.loc "bound"), (.loc "names")]) "k" (.con (.int 7)) ["bound", "names"])) [
      .ret (.con (.bool false))] []]
structure EndF (A : SA) (hp : List Ce) (hbv low : Nat) (hc sc : Addr) (H : AH) : Prop where
  b : hbv ≤ hp.length
  h : H hc = some (.lst (encC hp))
  s : H sc = some (.lst (encC [.srf 0, .srf 1]))
  ha : hc ∉ A.all
  sa : sc ∉ A.all
structure FL (A : SA) (ea pa hc sc : Addr) (o : Bool) (low : Nat) (f : Frm) : Prop where
  f1 : f "store" = some (.r A.s)
  f2 : f "equations" = some (.r ea)
  f3 : f "occurs" = some (.d (.bool o))
  f4 : f "pairs" = some (.r pa)
  f5 : f "mark" = some (.d (.int 0))
  f6 : f "heap" = some (.r hc)
  f7 : f "stack" = some (.r sc)
  f8 : f "low" = some (.d (.int (low : Int)))
section
variable {C : Nat → Oracle} {H : AH} {A : SA} {hp : List Ce} {hbv low : Nat} {ea pa hc sc : Addr} {o : Bool} {f : Frm} {Q : Post}
theorem FL.put (h : FL A ea pa hc sc o low f) {x : Str} (hx : x ∉ (["store", "equations", "occurs", "pairs", "mark", "heap", "stack", "low"] : List Str)) (v : AV) : FL A ea pa hc sc o low (f.put x v) := by
  have n : ∀ y ∈ (["store", "equations", "occurs", "pairs", "mark", "heap", "stack", "low"] : List Str), ¬ y = x := fun y hy e => hx (e ▸ hy)
  obtain ⟨n1, n⟩ := List.forall_mem_cons.mp n
  obtain ⟨n2, n⟩ := List.forall_mem_cons.mp n
  obtain ⟨n3, n⟩ := List.forall_mem_cons.mp n
  obtain ⟨n4, n⟩ := List.forall_mem_cons.mp n
  obtain ⟨n5, n⟩ := List.forall_mem_cons.mp n
  obtain ⟨n6, n⟩ := List.forall_mem_cons.mp n
  obtain ⟨n7, n⟩ := List.forall_mem_cons.mp n
  exact ⟨putNe n1 h.f1, putNe n2 h.f2, putNe n3 h.f3, putNe n4 h.f4, putNe n5 h.f5, putNe n6 h.f6, putNe n7 h.f7, putNe (n _ (.head _)) h.f8⟩
theorem EndF.gr {H' : AH} (e : EndF A hp hbv low hc sc H) (g : Gr A.mut H H') : EndF A hp hbv low hc sc H' := ⟨e.b, g _ _ (fun hm => e.ha (SA.mut_sub hm)) e.h, g _ _ (fun hm => e.sa (SA.mut_sub hm)) e.s, e.ha, e.sa⟩
set_option tactic.hygienic true in
theorem right_values (O : Orc C) (k : Nat) {x : Sx} {K : List Nat} {D : Nat → T} {G : Val} {E : List (T × T)} {Bt : List (Nat × T)} {δ : Nat → T} {dd : Addr} (h : StoreH A x H) (B : Bd hp K D []) (hl : hp.length ≤ 89)
    (W : WF (lyOf hp K) x) (g : Gen (lyOf hp K) id x G) (t : Tr (x2Of hp hbv low) x) (hu5 : ∀ n : Nat, hp[n]? = some (.ref n) → n < 5) (htw : ∀ k, k < 7 → (δ k).sub G.key = G.key k ∧ (G.key k).sub δ = δ k) (hG : GS E Bt [] δ)
    (hd : H dd = some (.di (encB Bt))) (e : EndF A hp hbv low hc sc H) (fl : FL A ea pa hc sc o low f) (f2 : f "bound" = some (.r dd))
    (q : ∀ H', Gr A.mut H H' → Q (.d (.bool true)) H') : Wxs (C (k + 40)) valS f H (seqQ (C (k + 40)) endS (retQ Q)) := by
  have hdep : ∀ k, k < 7 → (G.key k).dep ≤ 21 := fun k hk => twin_dep hG htw hk
  have f1 := fl.f1
  have hdA : dd ∉ A.all := h.not_di hd
  refine sAsg (dctI fun nb hnb => ?_)
  have hnA : nb ∉ A.all := h.ne hnb
  have h1 := h.new (o := .di []) hnb
  have hn1 := set_at H nb (.di [])
  have hd1 := keep_new (o' := .di []) hd hnb
  have g1 : Gr [] H (H.set nb (.di [])) := Gr.new hnb
  have hdn : dd ≠ nb := ne_new hd hnb
  show Wxs _ _ _ (H.set nb (.di [])) _
  generalize H.set nb (.di []) = H1 at h1 hn1 hd1 g1 ⊢
  have V0 : VT A (x2Of hp hbv low) G.key nb H1 0 H1 := ⟨Gr.refl _ _, h1, TS.start B W g t (Nat.le_trans hl (by decide)), hn1⟩
  refine sAsg (eLcR 5 (by decide) (VA A (x2Of hp hbv low) G.key nb H1) ⟨V0, rfl⟩ (fun i acc H' hi V => ?_) fun acc H2 V va hva => ?_)
  · obtain ⟨V, rfl⟩ := V
    have V' := V
    obtain ⟨_, h', _, _⟩ := V'
    tb_start
    rw [show Dt.tup [.int 0, .int (i : Int)] = (cellOf i).enc from congrArg Ce.enc (if_pos (t := Ce.ref i) (e := Ce.srf (i - 5)) hi).symm]
    refine take_step O (k + 35) V (Nat.lt_trans hi (by decide)) hnA hu5 rfl (hdep i (Nat.lt_trans hi (by decide))) fun H2 g2 V2 => ?_
    tb_start
    exact .mk (by rw [encs_len, nk_len]; exact Nat.lt_trans hi (by decide)) ⟨V2, by rw [encs_snoc, nk_succ]⟩
  obtain ⟨V5, rfl⟩ := V
  have hvm := V5.ne hva
  have hvaH1 : H1 va = none := V5.gr.back hva hvm
  have hva3 := set_at H2 va (.lst (encs (nk G.key 5).1))
  have V53 := V5.new hva (.lst (encs (nk G.key 5).1))
  show Wxs _ _ _ (H2.set va (.lst (encs (nk G.key 5).1))) _
  generalize H2.set va (.lst (encs (nk G.key 5).1)) = H3 at hva3 V53 ⊢
  refine sAug (putAt _ _ _) (eLcR 2 (by decide) (VB A (x2Of hp hbv low) G.key nb va H1) ⟨V53, hva3, rfl, rfl, (List.append_nil _).symm⟩ (fun i acc H' hi V => ?_) fun acc H4 V vb hvb => ?_)
  · obtain ⟨V, hva', rfl, hrl, hr⟩ := V
    rename_i rest
    have V' := V
    obtain ⟨_, h', _, _⟩ := V'
    tb_start
    have hce : Dt.tup [.int 1, .int (i : Int)] = (cellOf (5 + i)).enc := by
      unfold cellOf; rw [if_neg (by omega), Nat.add_sub_cancel_left]; rfl
    rw [hce]
    refine take_step O (k + 35) V (Nat.add_lt_add_left hi 5) hnA hu5 rfl (hdep (5 + i) (Nat.add_lt_add_left hi 5)) fun H4 g4 V4 => ?_
    tb_start
    refine .mk (by rw [encs_len, hrl]; exact Nat.lt_trans hi (by decide)) ⟨V4, g4 va _ hvm hva', encs_snoc _ _, by rw [List.length_append, hrl]; rfl, ?_⟩
    rw [show 5 + (i + 1) = 5 + i + 1 from rfl, nk_succ, ← List.append_assoc, ← hr]
  obtain ⟨V7, hva4, rfl, hrl, hr⟩ := V
  rename_i rest
  have V7 : VT A (x2Of hp hbv low) G.key nb H1 7 H4 := V7
  have hr : (nk G.key 7).1 = (nk G.key 5).1 ++ rest := hr
  have hva5 := keep_new (o' := .lst (encs rest)) hva4 hvb
  have hvb5 := set_at H4 vb (.lst (encs rest))
  have V75 := V7.new hvb (.lst (encs rest))
  generalize H4.set vb (.lst (encs rest)) = H5 at hva5 hvb5 V75 ⊢
  refine .lst hva5 hvb5 (by rw [encs_len, encs_len, nk_len, hrl]; decide) ?_
  rw [← encs_app, ← hr]
  obtain ⟨g6, h6, S6, hn6⟩ := V75
  rename_i x6 L6 nm6 G6 ad6
  have hvaA : va ∉ A.all := fun hm => by obtain ⟨o, e⟩ := h1.has va hm; rw [hvaH1] at e; cases e
  have hva6 := set_at H5 va (.lst (encs (nk G.key 7).1))
  have h6 := h6.other (o := .lst (encs (nk G.key 7).1)) hvaA
  have g6 : Gr (va :: nb :: A.mut) H1 (H5.set va (.lst (encs (nk G.key 7).1))) := (g6.up fun y hy => .tail _ hy).tr (gr_mem (.head _))
  generalize H5.set va (.lst (encs (nk G.key 7).1)) = H6 at hva6 h6 g6 ⊢
  have hd6 : H6 dd = some (.di (encB Bt)) := g6 dd _ (fun hm => (List.mem_cons.mp hm).elim (fun e => by rw [← e, hd1] at hvaH1; cases hvaH1) fun hm => (List.mem_cons.mp hm).elim hdn fun hm => hdA (SA.mut_sub hm)) hd1
  refine sAsg (dctI fun nm hnm => ?_)
  have hnm7 := set_at H6 nm (.di [])
  have hd7 := keep_new (o' := .di []) hd6 hnm
  have hva7 := keep_new (o' := .di []) hva6 hnm
  have h7 := h6.new (o := .di []) hnm
  have hnmA : nm ∉ A.all := h6.ne hnm
  have hdnm : dd ≠ nm := ne_new hd6 hnm
  have hvanm : va ≠ nm := ne_new hva6 hnm
  have g67 : Gr [] H6 (H6.set nm (.di [])) := Gr.new hnm
  show Wxs _ _ _ (H6.set nm (.di [])) _
  generalize H6.set nm (.di []) = H7 at hnm7 hd7 hva7 h7 g67 ⊢
  tb_start
  refine eLcR 7 (by decide) (VC δ nm H7) ⟨Gr.refl _ _, hnm7, ⟨List.nodup_nil, fun _ h => nomatch h⟩, rfl⟩ (fun i acc H' hi V => ?_) fun acc H8 V vc hvc => ?_
  · obtain ⟨g', hn', hL, rfl⟩ := V
    tb_start
    refine whole_spec O hG.mg.sol hG.blo hdnm 21 (k + 17) (t := .v i) (hG.dep21 i) hi (Nat.zero_le _) (g' dd _ (fun hm => hdnm (List.mem_singleton.mp hm)) hd7) hn' hL fun H8 g8 hn8 hL8 => ?_
    tb_start
    exact .mk (by rw [encs_len, nk_len]; exact Nat.lt_trans hi (by decide)) ⟨g'.tr g8, by rw [nk_succ]; exact hn8, by rw [nk_succ]; exact hL8, by rw [encs_snoc, nk_succ]; rfl⟩
  obtain ⟨g8, hn8, hL8, rfl⟩ := V
  have hva8 := keep_new (o' := .lst (encs (nk δ 7).1)) (g8 va _ (fun hm => hvanm (List.mem_singleton.mp hm)) hva7) hvc
  have hoks : Dt.oks (encs (nk δ 7).1) := by
    refine encs_oks fun t ht => ?_
    have := nums_dep (D := 21) (ts := (List.range 7).map δ) (L := []) (fun u hu => by
      obtain ⟨j, hj, rfl⟩ := List.mem_map.mp hu
      exact hG.dep21 j) t ht
    exact Nat.le_trans this (by decide)
  rw [← nk_twin htw] at hva8
  refine cNeL hva8 (set_at _ _ _) hoks ?_
  have h8 := (h7.gr g8 (fun y hy hm => hnmA (by rw [List.mem_singleton.mp hm] at hy; exact hy))).new (o := .lst (encs (nk δ 7).1)) hvc
  have g9 : Gr A.mut H (H8.set vc (.lst (encs (nk δ 7).1))) := by
    have g17 : Gr (va :: nb :: A.mut) H1 H7 := g6.tr g67.up0
    refine ((g1.up0.trans g17 (List.forall_mem_cons.mpr ⟨.inr (g1.back hvaH1 fun z => (nomatch z)), List.forall_mem_cons.mpr ⟨.inr hnb, fun y hy => .inl hy⟩⟩)).trans g8 fun y hy => ?_).tr (Gr.new hvc).up0
    rw [List.mem_singleton.mp hy]
    by_cases hva0 : nm = va ∨ nm ∈ nb :: A.mut
    · exact hva0.elim (fun e => absurd e.symm hvanm) fun hm => (List.mem_cons.mp hm).elim (fun e => .inr (by rw [e]; exact hnb)) fun hm => absurd (SA.mut_sub hm) hnmA
    · exact .inr (g1.back (g6.back hnm fun hm => hva0 (List.mem_cons.mp hm)) fun z => (nomatch z))
  generalize H8.set vc (.lst (encs (nk δ 7).1)) = H9 at h8 g9 ⊢
  have e9 := e.gr g9
  refine ifF (sNilS ?_)
  exact right_end O (k + 39) h8 S6.tr e9.b e9.h e9.s e9.ha e9.sa (by k_caught0) (putNe (by decide) (putNe (by decide) (putNe (by decide) fl.f5))) (putNe (by decide) (putNe (by decide) (putNe (by decide) fl.f6))) (putNe (by decide) (putNe (by decide) (putNe (by decide) fl.f7))) (putNe (by decide) (putNe (by decide) (putNe (by decide) fl.f8))) fun H' g' => q H' (g9.tr g')
end
theorem key_sub {hp : List Ce} {K : List Nat} {D : Nat → T} (B : Bd hp K D []) (θ : Nat → T) : ((gOf D).sub θ).key = θ := by
  funext k
  show (if k < 5 then (D k).sub θ else θ (5 + (k - 5))) = θ k
  by_cases h : k < 5
  · rw [if_pos h, (B.first k h).2]; rfl
  · rw [if_neg h, Nat.add_sub_cancel' (Nat.le_of_not_lt h)]
theorem hu5_of {hp : List Ce} {K : List Nat} {D : Nat → T} (B : Bd hp K D []) : ∀ n : Nat, hp[n]? = some (.ref n) → n < 5 := fun n hn => by
  rcases B.fil n _ hn trivial with hL | hm
  · cases hD : D n <;> rw [hD] at hL <;> first | exact hL.elim | exact hL.2
  · cases hm
noncomputable abbrev chkS : List IS :=
    .forR "address" [(.len (.att (.loc "store") "heap"))] [
      .asg (.one "cell") (.sub (.att (.loc "store") "heap") (.loc "address")),
      .ife (.orE (.cmp .Eq (.sub (.loc "cell") (.con (.int 0))) (.con (.int 1))) (.andE (.cmp .Eq (.sub (.loc "cell") (.con (.int 0))) (.con (.int 0))) (.notE (.chn (.con (.int 0)) .LtE (.sub (.loc "cell") (.con (.int 1))) .LtE (.loc "address"))))) [
        .ret (.con (.bool false))] []] ::
    .forR "place" [(.con (.int 2))] [
      .ife (.andE (.cmp .Eq (.sub (.sub (.att (.loc "store") "stack") (.loc "place")) (.con (.int 0))) (.con (.int 1))) (.notE (.chn (.con (.int 0)) .LtE (.sub (.sub (.att (.loc "store") "stack") (.loc "place")) (.con (.int 1))) .LtE (.loc "place")))) [
        .ret (.con (.bool false))] []] :: valS
noncomputable abbrev ifS : List IS := .ife (.cmp .IsNot (.loc "bound") (.con .none)) chkS [] :: endS
noncomputable abbrev turnS : List IS := [
    .asg (.one "bound") (.fn "_law_solved" [(.slcH (.loc "equations") (.bin .Add (.loc "place") (.con (.int 1))))]),
    .asg (.one "told") (.fn "unify" [(.loc "store"), (.sub (.sub (.loc "pairs") (.loc "place")) (.con (.int 0))), (.sub (.sub (.loc "pairs") (.loc "place")) (.con (.int 1))), (.loc "occurs")]),
    .ife (.orE (.notE (.isbool (.loc "told"))) (.cmp .NotEq (.loc "told") (.cmp .IsNot (.loc "bound") (.con .none)))) [
      .ret (.con (.bool false))] [],
    .ife (.notE (.loc "told")) [
      .brk] []]
noncomputable abbrev loopS : List IS := .asg (.one "mark") (.met .store (.loc "store") "mark" []) :: .forR "place" [(.len (.loc "pairs"))] turnS :: ifS
section
variable {C : Nat → Oracle} {H : AH} {A : SA} {hp : List Ce} {hbv low : Nat} {ea pa hc sc : Addr} {o : Bool} {f : Frm}
inductive CI (A : SA) (ea pa hc sc : Addr) (o : Bool) (low : Nat) (dd : Addr) (H : AH) (i : Nat) (f : Frm) (H' : AH) : Prop
  | mk (fl : FL A ea pa hc sc o low f) (fb : f "bound" = some (.r dd)) (e : H' = H) : CI A ea pa hc sc o low dd H i f H'
theorem CI.put {dd : Addr} {i : Nat} {H' : AH} (I : CI A ea pa hc sc o low dd H i f H') (j : Nat) {x : Str} (hx : x ∉ (["store", "equations", "occurs", "pairs", "mark", "heap", "stack", "low"] : List Str)) (hb : ¬ ("bound" : Str) = x) (v : AV) : CI A ea pa hc sc o low dd H j (f.put x v) H' := by
  cases I with
  | mk fl fb e => exact ⟨fl.put hx v, putNe hb fb, e⟩
theorem WF.heapc {L : Ly} {x : Sx} (W : WF L x) {i : Nat} {c : Ce} (hc : x.heap[i]? = some c) (hi : i < 1000000) : c.tag ≠ 1 ∧ (c.tag = 0 → 0 ≤ c.val ∧ c.val ≤ (i : Int)) := by
  have hw : c.noFn → c.num ≤ i := fun hf => (W.ok (.ref i) c (Sx.at_ref.mpr ⟨hc, hf⟩)).2
  cases c with
  | ref n => exact ⟨by show ¬ ((0 : Int) = 1); decide, fun _ => ⟨Int.natCast_nonneg n, Int.ofNat_le.mpr (hw trivial)⟩⟩
  | srf n => exact absurd (Nat.le_trans (Nat.le_add_left _ _) (hw trivial)) (Nat.not_le.mpr hi)
  | str n => exact ⟨by show ¬ ((2 : Int) = 1); decide, fun z => absurd z (by show ¬ ((2 : Int) = 0); decide)⟩
  | lis n => exact ⟨by show ¬ ((3 : Int) = 1); decide, fun z => absurd z (by show ¬ ((3 : Int) = 0); decide)⟩
  | con n => exact ⟨by show ¬ ((4 : Int) = 1); decide, fun z => absurd z (by show ¬ ((4 : Int) = 0); decide)⟩
  | int n => exact ⟨by show ¬ ((5 : Int) = 1); decide, fun z => absurd z (by show ¬ ((5 : Int) = 0); decide)⟩
  | fn n => exact ⟨by show ¬ ((6 : Int) = 1); decide, fun z => absurd z (by show ¬ ((6 : Int) = 0); decide)⟩
theorem WF.stackc {L : Ly} {x : Sx} (W : WF L x) {i : Nat} {c : Ce} (hc : x.stack[i]? = some c) (z : c.tag = 1) : 0 ≤ c.val ∧ c.val ≤ (i : Int) := by
  have hw : c.num ≤ (Ce.srf i).num := (W.ok (.srf i) c (Sx.at_srf.mpr hc)).2
  obtain ⟨m, rfl⟩ := tag_srf z
  exact ⟨Int.natCast_nonneg m, Int.ofNat_le.mpr (Nat.le_of_add_le_add_right hw)⟩
theorem right_checks (O : Orc C) (k : Nat) {L : Ly} {x : Sx} {dd : Addr} {R : SPost} (h : StoreH A x H) (W : WF L x) (I : CI A ea pa hc sc o low dd H 0 f H) (q : ∀ f', FL A ea pa hc sc o low f' → f' "bound" = some (.r dd) → Wxs (C k) valS f' H R) : Wxs (C k) chkS f H R := by
  have hhl := W.hl
  have hlt := W.lt
  have f1 : f "store" = some (.r A.s) := by cases I with | mk fl _ _ => exact fl.f1
  tb_start
  refine rngU (n := x.heap.length) (by omega) (CI A ea pa hc sc o low dd H) I (fun i f' H' hi I => ?_) fun f' H' I => ?_
  · have I1 := I.put 0 (x := "address") (by decide) (by decide) (.d (.int (i : Int)))
    have J := I1.put (i + 1) (x := "cell") (by decide) (by decide) (.d (x.heap[i]).enc)
    obtain ⟨fl, _, rfl⟩ := I
    have f1 := fl.f1
    have hc := List.getElem?_eq_getElem hi
    obtain ⟨h0, h1⟩ := W.heapc hc (by omega)
    tb_start
    refine subOf (h.hget hc) ?_
    tb_start
    refine ifDF h0 ?_
    tb_start
    refine ifD (fun z => ?_) (fun z => ?_)
    · tb_start
      refine eChnLe ofCon (fun R q => eVal (c := x.heap[i]) (by k_caught0) q) (ofLoc (by k_caught0)) (h1 z).1 (h1 z).2 ?_
      tb_start
      exact J
    · tb_start
      exact J
  have fl : FL A ea pa hc sc o low f' := by cases I with | mk fl _ _ => exact fl
  have f1 := fl.f1
  tb_start
  refine rngU (n := 2) (by decide) (CI A ea pa hc sc o low dd H) (by cases I with | mk a b c => exact ⟨a, b, c⟩) (fun i f' H' hi I => ?_) fun f' H' I => ?_
  · have J := I.put (i + 1) (x := "place") (by decide) (by decide) (.d (.int (i : Int)))
    obtain ⟨fl, _, rfl⟩ := I
    have f1 := fl.f1
    have hc := List.getElem?_eq_getElem (show i < x.stack.length by rw [W.sl]; exact hi)
    have h1 := W.stackc hc
    tb_start
    refine subOf (h.sget hc) ?_
    tb_start
    refine subOf (sub_tag _ _) ?_
    tb_start
    refine ifD (fun z => ?_) (fun z => ?_)
    · tb_start
      refine eChnLe ofCon (ofSub (ofSub (ofAtt (by k_caught0) (h.att (lf_stack A _ _))) (ofLoc (by k_caught0)) (h.sget hc)) ofCon (sub_val _ _)) (ofLoc (by k_caught0)) (h1 z).1 (h1 z).2 ?_
      tb_start
      exact J
    · tb_start
      exact J
  cases I with
  | mk fl fb e =>
    subst e
    exact q _ fl fb
end
theorem pair_get {l : List (Ce × Ce)} {i : Nat} {p : Ce × Ce} (h : l[i]? = some p) : (encPs l)[i]? = some (encP p) := by
  unfold encPs; rw [List.getElem?_map, h]; rfl
theorem lo_mono {m n : Nat} (h : m ≤ n) : ∀ {t : T}, t.lo m → t.lo n
  | .v k, hk => Nat.lt_of_lt_of_le hk h
  | .a k, hk => trivial
  | .i k, hk => trivial
  | .u t, hk => lo_mono (t := t) h hk
  | .b d s t, hk => ⟨lo_mono (t := s) h hk.1, lo_mono (t := t) h hk.2⟩
theorem side_lo7 {t : T} (h : t.side) : t.lo 7 ∧ t.dep ≤ 3 := by
  rcases h with ⟨h1, h2⟩ | ⟨n, hn, rfl⟩
  · exact ⟨lo_mono (by decide) h1, h2⟩
  · exact ⟨hn, Nat.zero_le _⟩
section
variable {C : Nat → Oracle} {H : AH} {A : SA} {hp : List Ce} {hbv low : Nat} {ea pa hc sc : Addr} {o : Bool} {f : Frm}
theorem law_solved_spec (O : Orc C) (k : Nat) {E : List (T × T)} {a : Addr} {Q : Post} (h : H a = some (.lst (E.map encE))) (hE : ∀ p ∈ E, p.1.side ∧ p.2.side) (hl : E.length ≤ 2)
    (q1 : (∀ θ, ¬ SolvesE θ E) → ∀ H', Gr [] H H' → Q (.d .none) H') (q2 : ∀ d B δ H', GS E B [] δ → Gr [] H H' → H' d = some (.di (encB B)) → Q (.r d) H') : C (k + 3) (.fn "_law_solved") [.r a] H Q := by
  have hE' : ∀ p ∈ E, (p.1.lo 7 ∧ p.2.lo 7) ∧ p.1.dep ≤ 3 ∧ p.2.dep ≤ 3 := fun p hp => ⟨⟨(side_lo7 (hE p hp).1).1, (side_lo7 (hE p hp).2).1⟩, (side_lo7 (hE p hp).1).2, (side_lo7 (hE p hp).2).2⟩
  obtain ⟨n, r, hS, hr⟩ := solve_ex 7 _ [] E .v (GS.start hE' hl) rfl rfl
  refine solved_spec O k h (fun p hp => (hE' p hp).2) hS (fun H' g e => ?_) fun d B H' g hd e => ?_
  · rcases hr with ⟨B', δ', e2, _⟩ | ⟨_, hno⟩
    · rw [e] at e2; cases e2
    · exact q1 hno H' g
  · rcases hr with ⟨B', δ', e2, hG⟩ | ⟨e2, _⟩
    · rw [e] at e2; cases e2
      exact q2 d B δ' H' hG g hd
    · rw [e] at e2; cases e2
theorem solved_slice (O : Orc C) (k : Nat) {E : List (T × T)} {ie : IE} {n : Nat} {Q : Post} (fe : f "equations" = some (.r ea)) (h : H ea = some (.lst (E.map encE))) (hE : ∀ p ∈ E, p.1.side ∧ p.2.side) (hl : E.length ≤ 2) (hie : ∀ R : Post, R (.d (.int (n : Int))) H → We (C (k + 3)) ie f H R)
    (q1 : (∀ θ, ¬ SolvesE θ (E.take n)) → ∀ H', Gr [] H H' → Q (.d .none) H') (q2 : ∀ d B δ H', GS (E.take n) B [] δ → Gr [] H H' → H' d = some (.di (encB B)) → Q (.r d) H') : We (C (k + 3)) (.fn "_law_solved" [.slcH (.loc "equations") ie]) f H Q := by
  refine eFn (esCons (eSlcH (ofLoc fe) h hie fun a ha => esNil ?_))
  rw [← List.map_take]
  exact law_solved_spec O k (set_at _ _ _) (fun p hp => hE p (List.mem_of_mem_take hp)) (Nat.le_trans (List.length_take_le' ..) hl) (fun hno H' g => q1 hno H' ((Gr.new ha).tr g)) fun d B δ H' hG g hd => q2 d B δ H' hG ((Gr.new ha).tr g) hd
structure EqF (A : SA) (hp : List Ce) (K : List Nat) (D : Nat → T) (o : Bool) (ea pa : Addr) (E : List (T × T)) (ps : List (Ce × Ce)) (H : AH) : Prop where
  e : H ea = some (.lst (E.map encE))
  p : H pa = some (.lst (encPs ps))
  eA : ea ∉ A.all
  pA : pa ∉ A.all
  B : Bd hp K D []
  hk : K.length ≤ 28
  hl : hp.length ≤ 89
  side : ∀ p ∈ E, p.1.side ∧ p.2.side
  eq : ∀ i, i < 2 → ∃ p c d, E[i]? = some p ∧ ps[i]? = some (c, d) ∧ EqC (lyOf hp K) (gOf D) c d p
  len : E.length = 2
  plen : ps.length = 2
  chk : o = true ∨ ∃ θ, SolvesE θ E
theorem EqF.gr {K : List Nat} {D : Nat → T} {E : List (T × T)} {ps : List (Ce × Ce)} {H' : AH} (e : EqF A hp K D o ea pa E ps H) (g : Gr A.mut H H') : EqF A hp K D o ea pa E ps H' :=
  ⟨g _ _ (fun hm => e.eA (SA.mut_sub hm)) e.e, g _ _ (fun hm => e.pA (SA.mut_sub hm)) e.p, e.eA, e.pA, e.B, e.hk, e.hl, e.side, e.eq, e.len, e.plen, e.chk⟩
inductive LI (A : SA) (hp : List Ce) (K : List Nat) (D : Nat → T) (hbv low : Nat) (ea pa hc sc : Addr) (o : Bool) (E : List (T × T)) (H : AH) (i : Nat) (f : Frm) (H' : AH) : Prop
  | mk {x : Sx} {G : Val} (fl : FL A ea pa hc sc o low f) (g : Gr A.mut H H') (h : StoreH A x H') (W : WF (lyOf hp K) x) (gen : Gen (lyOf hp K) id x G) (t : Tr (x2Of hp hbv low) x) (hmod : ∀ m, Mod (lyOf hp K) x m ↔ Mod (lyOf hp K) (x2Of hp hbv low) m ∧ SolvesE m.key (E.take i))
    (b : i = 0 ∨ ∃ dd B' δ, f "bound" = some (.r dd) ∧ H' dd = some (.di (encB B')) ∧ GS (E.take i) B' [] δ) : LI A hp K D hbv low ea pa hc sc o E H i f H'
variable {K : List Nat} {D : Nat → T} {E : List (T × T)} {ps : List (Ce × Ce)} {Q : Post}
theorem right_none (O : Orc C) (k : Nat) {x : Sx} (h : StoreH A x H) (t : Tr (x2Of hp hbv low) x) (e : EndF A hp hbv low hc sc H) (fl : FL A ea pa hc sc o low f) (fb : f "bound" = some (.d .none)) (q : ∀ H', Gr A.mut H H' → Q (.d (.bool true)) H') : Wxs (C (k + 40)) ifS f H (retQ Q) :=
  sIf0 (eCmp (eLoc fb (eCon (cIsNN (ifF (right_end O (k + 39) h t e.b e.h e.s e.ha e.sa fl.f1 fl.f5 fl.f6 fl.f7 fl.f8 q))))))
theorem right_some (O : Orc C) (k : Nat) {H0 : AH} (F : EqF A hp K D o ea pa E ps H) (e : EndF A hp hbv low hc sc H) (I : LI A hp K D hbv low ea pa hc sc o E H0 2 f H) (q : ∀ H', Gr A.mut H H' → Q (.d (.bool true)) H') : Wxs (C (k + 40)) ifS f H (retQ Q) := by
  obtain ⟨fl, _, h, W, gen, t, hmod, b⟩ := I
  obtain ⟨dd, Bt, δ, fb, hd, hG⟩ := b.resolve_left (by decide)
  rw [List.take_of_length_le (Nat.le_of_eq F.len)] at hmod hG
  refine sIf0 (eCmp (eLoc fb (eCon (cIsNR (ifT ?_)))))
  refine right_checks O (k + 40) h W ⟨fl, fb, rfl⟩ fun f' fl' fb' => ?_
  exact right_values O k h F.B F.hl W gen t (hu5_of F.B) (twins F.B (key_sub F.B) (built_gen (x := x2Of hp hbv low) F.B rfl rfl (Nat.le_trans F.hl (by decide)) F.hk).mod gen hmod hG) hG hd e fl' fb' q
set_option tactic.hygienic true in
theorem right_turn (O : Orc C) (k : Nat) {i : Nat} {H0 : AH} (hi : i < 2) (F : EqF A hp K D o ea pa E ps H) (e : EndF A hp hbv low hc sc H) (I : LI A hp K D hbv low ea pa hc sc o E H0 i f H) (q : ∀ H', Gr A.mut H0 H' → Q (.d (.bool true)) H') :
    Wxs (C (k + 40)) turnS (f.put "place" (.d (.int (i : Int)))) H (turnQ (LI A hp K D hbv low ea pa hc sc o E H0 (i + 1)) (seqQ (C (k + 40)) ifS (retQ Q))) := by
  obtain ⟨fl, g0, h, W, gen, t, hmod, _⟩ := I
  rename_i x G _
  have fl := fl.put (x := "place") (by decide) (.d (.int (i : Int)))
  have f1 := fl.f1
  have f3 := fl.f3
  have f4 := fl.f4
  have fp : (f.put "place" (.d (.int (i : Int)))) "place" = some (.d (.int (i : Int))) := putAt _ _ _
  generalize f.put "place" (.d (.int (i : Int))) = f at fl f1 f3 f4 fp ⊢
  obtain ⟨p, c, d, hEi, hpi, e1⟩ := F.eq i hi
  have B := F.B
  have G2 : Gen (lyOf hp K) id (x2Of hp hbv low) (gOf D) := built_gen B rfl rfl (Nat.le_trans F.hl (by decide)) F.hk
  have htake := take_snoc hEi
  have hiff : ∀ m, Mod (lyOf hp K) (x2Of hp hbv low) m → (m.of (lyOf hp K).fn c = m.of (lyOf hp K).fn d ↔ p.1.sub m.key = p.2.sub m.key) := fun m hm => e1.iff G2 hm
  have hsol : ∀ θ, SolvesE θ (E.take (i + 1)) → ∃ m, Mod (lyOf hp K) x m ∧ m.of (lyOf hp K).fn c = m.of (lyOf hp K).fn d := fun θ hθ => by
    rw [htake, solvesE_snoc] at hθ
    have hm2 : Mod (lyOf hp K) (x2Of hp hbv low) ((gOf D).sub θ) := G2.mod.subst θ
    exact ⟨(gOf D).sub θ, (hmod _).mpr ⟨hm2, by rw [key_sub B]; exact hθ.1⟩, (hiff _ hm2).mpr (by rw [key_sub B]; exact hθ.2)⟩
  have hchk : o = true ∨ ∃ m, Mod (lyOf hp K) x m ∧ m.of (lyOf hp K).fn c = m.of (lyOf hp K).fn d := F.chk.elim .inl fun ⟨θ, hθ⟩ => .inr (hsol θ fun q hq => hθ q (List.mem_of_mem_take hq))
  have sub : ∀ {H1 : AH}, Gr [] H H1 → SubV H1 (.r pa) (.d (.int (i : Int))) (encP (c, d)) := fun g1 => .lst (g1 _ _ (fun z => (nomatch z)) F.p) (pair_get hpi)
  refine sAsg (solved_slice O (k + 37) (n := i + 1) fl.f2 F.e F.side (Nat.le_of_eq F.len) (fun R q => ?_) (fun hno H1 g1 => ?_) fun dd B' δ H1 hG g1 hd => ?_)
  · refine eBin (eLoc fp (eCon ?_))
    exact bAdd q
  · have h1 := h.gr0 g1
    have g01 : Gr A.mut H0 H1 := g0.tr g1.up0
    have fl1 := fl.put (x := "bound") (by decide) (.d .none)
    tb_start
    refine subOf (sub g1) ?_
    tb_start
    refine subT0 ?_
    tb_start
    refine subOf (sub g1) ?_
    tb_start
    refine subT1 ?_
    tb_start
    refine unify_spec O (k + 34) h1 W gen t e1.l1 e1.l2 (hu5_of B) rfl W.hl hchk fun H2 x' z g2 h2 t2 hl2 hz1 hz2 => ?_
    have hz : z = false := by
      cases z with
      | true =>
        obtain ⟨_, ⟨G', g'⟩, hh⟩ := hz1 rfl
        obtain ⟨a, b⟩ := (hh G').mp g'.mod
        obtain ⟨a1, a2⟩ := (hmod G').mp a
        refine absurd ?_ (hno G'.key)
        rw [htake, solvesE_snoc]
        exact ⟨a2, (hiff G' a1).mp b⟩
      | false => rfl
    subst hz
    have e2 := (e.gr g1.up0).gr g2
    tb_start
    exact right_none O k h2 t2 e2 (fl1.put (x := "told") (by decide) _) (by k_caught0) fun H' g' => q H' ((g01.tr g2).tr g')
  · have h1 := h.gr0 g1
    have g01 : Gr A.mut H0 H1 := g0.tr g1.up0
    have fl1 := fl.put (x := "bound") (by decide) (.r dd)
    tb_start
    refine subOf (sub g1) ?_
    tb_start
    refine subT0 ?_
    tb_start
    refine subOf (sub g1) ?_
    tb_start
    refine subT1 ?_
    tb_start
    refine unify_spec O (k + 34) h1 W gen t e1.l1 e1.l2 (hu5_of B) rfl W.hl hchk fun H2 x' z g2 h2 t2 hl2 hz1 hz2 => ?_
    have hz : z = true := by
      cases z with
      | true => rfl
      | false =>
        obtain ⟨m, hm, he⟩ := hsol δ hG.solves
        exact absurd he (hz2 rfl m hm)
    subst hz
    obtain ⟨W', ⟨G', g'⟩, hh⟩ := hz1 rfl
    tb_start
    refine .mk (fl1.put (x := "told") (by decide) _) (g01.tr g2) h2 W' g' t2 (fun m => ?_) (.inr ⟨dd, B', δ, by k_caught0, g2 dd _ (fun hm => h1.not_di hd (SA.mut_sub hm)) hd, hG⟩)
    rw [hh m, hmod m, htake, solvesE_snoc, and_assoc]
    exact and_congr_right fun a => and_congr_right fun _ => hiff m a
theorem right_loop (O : Orc C) (k : Nat) (F : EqF A hp K D o ea pa E ps H) (e : EndF A hp hbv low hc sc H) (h : StoreH A (x2Of hp hbv low) H) (fl : FL A ea pa hc sc o low (f.put "mark" (.d (.int 0)))) (f1 : f "store" = some (.r A.s)) (q : ∀ H', Gr A.mut H H' → Q (.d (.bool true)) H') : Wxs (C (k + 40)) loopS f H (retQ Q) := by
  tb_start
  refine mark_spec O (k + 39) h ?_
  have f4 := fl.f4
  show Wxs _ _ (f.put "mark" (.d (.int 0))) _ _
  generalize f.put "mark" (.d (.int 0)) = f at fl f4 ⊢
  refine sForR (esCons (eLen (eLoc f4 (lenL F.p (esNil ?_)))))
  rw [show (encPs ps).length = 2 from (List.length_map ..).trans F.plen]
  refine rngU (by decide) (LI A hp K D hbv low ea pa hc sc o E H) (.mk fl (Gr.refl _ _) h (built_wf F.B rfl rfl (Nat.le_trans F.hl (by decide)) F.hk) (built_gen F.B rfl rfl (Nat.le_trans F.hl (by decide)) F.hk) (Tr.start rfl) (fun m => ⟨fun hm => ⟨hm, fun _ z => (nomatch z)⟩, fun hm => hm.1⟩) (.inl rfl)) (fun i f' H' hi I => ?_) fun f' H' I => ?_
  · have g : Gr A.mut H H' := by cases I with | mk _ g _ _ _ _ _ _ => exact g
    exact right_turn O k hi (F.gr g) (e.gr g) I q
  · have g : Gr A.mut H H' := by cases I with | mk _ g _ _ _ _ _ _ => exact g
    exact right_some O k (F.gr g) (e.gr g) I fun H2 g2 => q H2 (g.tr g2)
end
noncomputable abbrev cmpS : List IS :=
  .ife (.orE (.cmp .NotEq (.att (.loc "store") "heap") (.loc "heap")) (.orE (.cmp .NotEq (.att (.loc "store") "stack") (.loc "stack")) (.cmp .NotEq (.att (.loc "store") "trail") (.lst [])))) [
    .ret (.con (.bool false))] [] ::
  .ife (.cmp .NotEq (.tup [(.att (.loc "store") "hb"), (.att (.loc "store") "bb")]) (.tup [(.ite (.cmp .Lt (.loc "high") (.con (.int 6))) (.loc "high") (.len (.loc "heap"))), (.loc "low")])) [
    .ret (.con (.bool false))] [] :: loopS
noncomputable abbrev trialS2 : List IS :=
  .satt (.loc "store") "bb" (.loc "low") ::
  .asg (.one "heap") (.listc (.att (.loc "store") "heap")) ::
  .asg (.one "stack") (.listc (.att (.loc "store") "stack")) ::
  .asg (.one "told") (.fn "trial" [(.loc "store"), (.sub (.sub (.loc "pairs") (.con (.int 0))) (.con (.int 0))), (.sub (.sub (.loc "pairs") (.con (.int 0))) (.con (.int 1))), (.loc "occurs")]) ::
  .ife (.orE (.notE (.isbool (.loc "told"))) (.cmp .NotEq (.loc "told") (.cmp .IsNot (.fn "_law_solved" [(.slcH (.loc "equations") (.con (.int 1)))]) (.con .none)))) [
    .ret (.con (.bool false))] [] :: cmpS
noncomputable abbrev trialS : List IS := .satt (.loc "store") "hb" (.ite (.cmp .Lt (.loc "high") (.con (.int 6))) (.loc "high") (.len (.att (.loc "store") "heap"))) :: trialS2
section
variable {C : Nat → Oracle} {H : AH} {A : SA} {hp : List Ce} {hbv low high : Nat} {ea pa hc sc : Addr} {o : Bool} {f : Frm} {K : List Nat} {D : Nat → T} {E : List (T × T)} {ps : List (Ce × Ce)} {Q : Post}
theorem right_cmp (O : Orc C) (k : Nat) (F : EqF A hp K D o ea pa E ps H) (e : EndF A hp hbv low hc sc H) (h : StoreH A (x2Of hp hbv low) H) (hhb : (high < 6 ∧ hbv = high) ∨ (¬ high < 6 ∧ hbv = hp.length))
    (f1 : f "store" = some (.r A.s)) (f2 : f "equations" = some (.r ea)) (f3 : f "occurs" = some (.d (.bool o))) (f4 : f "pairs" = some (.r pa)) (f6 : f "heap" = some (.r hc)) (f7 : f "stack" = some (.r sc)) (f8 : f "low" = some (.d (.int (low : Int)))) (f9 : f "high" = some (.d (.int (high : Int))))
    (q : ∀ H', Gr A.mut H H' → Q (.d (.bool true)) H') : Wxs (C (k + 40)) cmpS f H (retQ Q) := by
  tb_start
  refine cNeL h.ha e.h (encC_oks _) ?_
  tb_start
  refine cNeL h.sa e.s (encC_oks _) ?_
  tb_start
  intro a ha
  have h7 := h.new (o := .lst []) ha
  have g7 : Gr A.mut H (H.set a (.lst [])) := (Gr.new ha).up0
  have F := F.gr g7
  have e := e.gr g7
  refine cNeL h7.ta (set_at H a (.lst [])) oks_nil ?_
  have rest : Wxs (C (k + 40)) loopS f (H.set a (.lst [])) (retQ Q) := right_loop O k F e h7 ⟨by k_caught0, by k_caught0, by k_caught0, by k_caught0, by k_caught0, by k_caught0, by k_caught0, by k_caught0⟩ f1 fun H' g' => q H' (g7.tr g')
  have hc7 := e.h
  generalize H.set a (.lst []) = H7 at h7 hc7 rest ⊢
  tb_start
  rcases hhb with ⟨z, rfl⟩ | ⟨z, rfl⟩
  · exact ifDT (Int.ofNat_lt.mpr z) (eLoc f9 (esCons (eLoc f8 (esNil (tup2 (cNePP (ifF rest)))))))
  · refine ifDF (fun w => z (Int.ofNat_lt.mp w)) ?_
    tb_start
    rw [encC_len]
    refine cNePP (ifF ?_)
    exact rest
theorem right_trial2 (O : Orc C) (k : Nat) (F : EqF A hp K D o ea pa E ps H) {b0 : Int} (h : StoreH A ⟨hp, [.srf 0, .srf 1], [], (hbv : Int), b0⟩ H) (hhb : (high < 6 ∧ hbv = high) ∨ (¬ high < 6 ∧ hbv = hp.length))
    (f1 : f "store" = some (.r A.s)) (f2 : f "equations" = some (.r ea)) (f3 : f "occurs" = some (.d (.bool o))) (f4 : f "pairs" = some (.r pa)) (f8 : f "low" = some (.d (.int (low : Int)))) (f9 : f "high" = some (.d (.int (high : Int))))
    (q : ∀ H', Gr A.mut H H' → Q (.d (.bool true)) H') : Wxs (C (k + 40)) trialS2 f H (retQ Q) := by
  have B := F.B
  tb_start
  refine h.set_bb fun H2 g2 h2 => ?_
  have h2 : StoreH A (x2Of hp hbv low) H2 := h2
  have F := F.gr g2
  tb_start
  refine .lst h2.ha fun hc hhc => ?_
  have h3 := h2.new (o := .lst (encC hp)) hhc
  have hcA : hc ∉ A.all := h2.ne hhc
  have hc3 := set_at H2 hc (.lst (encC hp))
  have g3 : Gr A.mut H2 (H2.set hc (.lst (encC hp))) := (Gr.new hhc).up0
  have F := F.gr g3
  have g3 := g2.tr g3
  show Wxs _ _ _ (H2.set hc (.lst (encC hp))) _
  generalize H2.set hc (.lst (encC hp)) = H3 at h3 hc3 g3 F ⊢
  tb_start
  refine .lst h3.sa fun sc hsc => ?_
  have h4 := h3.new (o := .lst (encC [.srf 0, .srf 1])) hsc
  have scA : sc ∉ A.all := h3.ne hsc
  have sc4 := set_at H3 sc (.lst (encC [.srf 0, .srf 1]))
  have hc4 := keep_new (o' := .lst (encC [.srf 0, .srf 1])) hc3 hsc
  have g4 : Gr A.mut H3 (H3.set sc (.lst (encC [.srf 0, .srf 1]))) := (Gr.new hsc).up0
  have F := F.gr g4
  have g4 := g3.tr g4
  show Wxs _ _ _ (H3.set sc (.lst (encC [.srf 0, .srf 1]))) _
  generalize H3.set sc (.lst (encC [.srf 0, .srf 1])) = H4 at h4 hc4 sc4 g4 F ⊢
  have hbl : hbv ≤ hp.length := by
    have := B.len5
    omega
  have e : EndF A hp hbv low hc sc H4 := ⟨hbl, hc4, sc4, hcA, scA⟩
  obtain ⟨p, c, d, hE0, hp0, e1⟩ := F.eq 0 (by decide)
  have hpr : (encPs ps)[0]? = some (encP (c, d)) := pair_get hp0
  tb_start
  refine subLst (n := 0) F.p hpr ?_
  tb_start
  refine subT0 ?_
  tb_start
  refine subLst (n := 0) F.p hpr ?_
  tb_start
  refine subT1 ?_
  tb_start
  have G := built_gen (x := x2Of hp hbv low) B rfl rfl (Nat.le_trans F.hl (by decide)) F.hk
  have ht1 : E.take 1 = [p] := take_snoc hE0
  have hiff : ∀ m, Mod (lyOf hp K) (x2Of hp hbv low) m → (m.of (lyOf hp K).fn c = m.of (lyOf hp K).fn d ↔ SolvesE m.key (E.take 1)) := fun m hm => by rw [ht1, solvesE_one]; exact e1.iff G hm
  have hsol : ∀ θ, SolvesE θ (E.take 1) → ∃ m, Mod (lyOf hp K) (x2Of hp hbv low) m ∧ m.of (lyOf hp K).fn c = m.of (lyOf hp K).fn d := fun θ hθ =>
    ⟨(gOf D).sub θ, G.mod.subst θ, (hiff _ (G.mod.subst θ)).mpr (by rw [key_sub B]; exact hθ)⟩
  refine trial_spec O (k + 33) h4 (built_wf (x := x2Of hp hbv low) B rfl rfl (Nat.le_trans F.hl (by decide)) F.hk) G rfl e1.l1 e1.l2 (hu5_of B) (F.chk.elim .inl fun ⟨θ, hθ⟩ => .inr (hsol θ fun q hq => hθ q (List.mem_of_mem_take hq))) fun H5 z g5 h5 hz1 hz2 => ?_
  have F := F.gr g5
  have e := e.gr g5
  have g5 := g4.tr g5
  have tail : ∀ {H7 : AH}, Gr [] H5 H7 → Wxs (C (k + 40)) cmpS (((f.put "heap" (.r hc)).put "stack" (.r sc)).put "told" (.d (.bool z))) H7 (retQ Q) := fun g7 =>
    right_cmp O k (F.gr g7.up0) (e.gr g7.up0) (h5.gr0 g7) hhb (by k_caught0) (by k_caught0) (by k_caught0) (by k_caught0) (by k_caught0) (by k_caught0) (by k_caught0) (by k_caught0) fun H' g' => q H' ((g5.tr g7.up0).tr g')
  tb_start
  refine eSlcH (n := 1) (ofLoc (by k_caught0)) F.e ofCon fun a ha => ?_
  tb_start
  rw [← List.map_take]
  have ga : Gr [] H5 (H5.set a (.lst ((E.take 1).map encE))) := Gr.new ha
  refine law_solved_spec O (k + 37) (set_at _ _ _) (fun p hp => F.side p (List.mem_of_mem_take hp)) (Nat.le_trans (List.length_take_le ..) (by decide)) (fun hno H7 g7 => ?_) fun dd B' δ H7 hG g7 hd => ?_
  · have hz : z = false := by
      cases z with
      | true =>
        obtain ⟨m, hm, he⟩ := hz1 rfl
        exact absurd ((hiff m hm).mp he) (hno m.key)
      | false => rfl
    subst hz
    exact eCon (cIsNN (cNeBB (ifF (tail (ga.tr g7)))))
  · have hz : z = true := by
      cases z with
      | true => rfl
      | false =>
        obtain ⟨m, hm, he⟩ := hsol δ hG.solves
        exact absurd he (hz2 rfl m hm)
    subst hz
    exact eCon (cIsNR (cNeBB (ifF (tail (ga.tr g7)))))
theorem right_trial (O : Orc C) (k : Nat) (F : EqF A hp K D o ea pa E ps H) (h : StoreH A ⟨hp, [.srf 0, .srf 1], [], 0, 0⟩ H)
    (f1 : f "store" = some (.r A.s)) (f2 : f "equations" = some (.r ea)) (f3 : f "occurs" = some (.d (.bool o))) (f4 : f "pairs" = some (.r pa)) (f8 : f "low" = some (.d (.int (low : Int)))) (f9 : f "high" = some (.d (.int (high : Int))))
    (q : ∀ H', Gr A.mut H H' → Q (.d (.bool true)) H') : Wxs (C (k + 40)) trialS f H (retQ Q) := by
  have key : ∀ hbv : Nat, (high < 6 ∧ hbv = high) ∨ (¬ high < 6 ∧ hbv = hp.length) → setAttr H (.r A.s) "hb" (.d (.int (hbv : Int))) (Wp (C (k + 40)) trialS2 f (retQ Q)) := fun hbv hhb =>
    h.set_hb fun H1 g1 h1 => right_trial2 O k (F.gr g1) h1 hhb f1 f2 f3 f4 f8 f9 fun H' g' => q H' (g1.tr g')
  tb_start
  refine ifD (fun z => ?_) (fun z => ?_)
  · have z := Int.ofNat_lt.mp z
    tb_start
    exact key high (.inl ⟨z, rfl⟩)
  · have z := fun w => z (Int.ofNat_lt.mpr w)
    tb_start
    exact key hp.length (.inr ⟨z, rfl⟩)
end
noncomputable def tblK (i : Nat) : List (Int × Dt) := (List.range i).map fun (k : Nat) => ((k : Int), (Ce.ref k).enc)
theorem tblK_succ (i : Nat) : tblK (i + 1) = tblK i ++ [((i : Int), (Ce.ref i).enc)] := by unfold tblK; rw [List.range_succ, List.map_append]; rfl
theorem putK_new {V : Type} {k : Int} {v : V} : ∀ {l : List (Int × V)}, (∀ e ∈ l, e.1 ≠ k) → putK k v l = l ++ [(k, v)]
  | [], _ => rfl
  | e :: l, h => (if_neg (h e List.mem_cons_self)).trans (congrArg (e :: ·) (putK_new fun x hx => h x (List.mem_cons_of_mem _ hx)))
theorem tblK_put (i : Nat) : putK (i : Int) (Ce.ref i).enc (tblK i) = tblK (i + 1) := by
  rw [tblK_succ]
  refine putK_new fun e he => ?_
  obtain ⟨k, hk, rfl⟩ := List.mem_map.mp he
  exact fun z => Nat.ne_of_lt (List.mem_range.mp hk) (Int.ofNat.inj z)
theorem tblK_len (i : Nat) : (tblK i).length = i := (List.length_map ..).trans List.length_range
theorem tblK_look : ∀ n : Nat, n < 5 → lookK (n : Int) (tblK 5) = some (Ce.ref n).enc := fun n hn => match n, hn with
  | 0, _ => rfl
  | 1, _ => rfl
  | 2, _ => rfl
  | 3, _ => rfl
  | 4, _ => rfl
  | n + 5, h => absurd h (Nat.not_lt.mpr (Nat.le_add_left 5 n))
theorem tblK_keys : ∀ e ∈ tblK 5, ∃ n : Nat, n < 5 ∧ e.1 = (n : Int) := fun e he => by
  obtain ⟨k, hk, rfl⟩ := List.mem_map.mp he
  exact ⟨k, List.mem_range.mp hk, rfl⟩
theorem bd_start : Bd ((List.range 5).map Ce.ref) [] (fun n => .v n) [] := by
  have lt : ∀ {a : Nat} {c : Ce}, ((List.range 5).map Ce.ref)[a]? = some c → a < 5 := fun h => some_lt h
  refine ⟨fun n hn => ⟨by rw [List.getElem?_map, List.getElem?_range hn]; rfl, rfl⟩, fun a c h hf => .inl ?_, fun p hp => (nomatch hp), fun a ha => ?_⟩
  · have ha := lt h
    rw [List.getElem?_map, List.getElem?_range ha] at h
    cases h; exact ⟨rfl, ha⟩
  · obtain ⟨c, h, _⟩ := ha
    exact lt h
theorem Gr.fresh {ms : List Addr} {H H1 H2 : AH} (g : Gr [] H H1) (g2 : Gr ms H1 H2) (h : ∀ a ∈ ms, H a = none) : Gr [] H H2 := g.trans g2 fun a ha => .inr (h a ha)
theorem side_eqc {hp : List Ce} {K : List Nat} {D : Nat → T} (B : Bd hp K D []) {c1 c2 : Ce} {p : T × T} (s1 : Side hp K D c1 p.1) (s2 : Side hp K D c2 p.2) : EqC (lyOf hp K) (gOf D) c1 c2 p := by
  have key : ∀ {c : Ce} {t : T}, Side hp K D c t → (lyOf hp K).cell c ∧ (gOf D).of (lyOf hp K).fn c = t := fun h => by
    rcases h with h | ⟨n, hn, rfl, rfl⟩
    · exact ⟨h.cell B, h.val B⟩
    · exact ⟨hn, rfl⟩
  exact ⟨(key s1).1, (key s2).1, (key s1).2, (key s2).2⟩
structure BF (A : SA) (ea kd : Addr) (o : Bool) (high low : Nat) (f : Frm) : Prop where
  f1 : f "store" = some (.r A.s)
  f2 : f "equations" = some (.r ea)
  f3 : f "occurs" = some (.d (.bool o))
  f4 : f "known" = some (.r kd)
  f8 : f "low" = some (.d (.int (low : Int)))
  f9 : f "high" = some (.d (.int (high : Int)))
inductive BI (A : SA) (ea kd : Addr) (o : Bool) (high low : Nat) (H : AH) (i : Nat) (f : Frm) (H' : AH) : Prop
  | mk (bf : BF A ea kd o high low f) (g : Gr [] H H') (h : StoreH A ⟨(List.range i).map Ce.ref, [], [], 0, 0⟩ H') (hk : H' kd = some (.di (tblK i))) : BI A ea kd o high low H i f H'
inductive CelI (A : SA) (ea kd : Addr) (E : List (T × T)) (H : AH) (i : Nat) (acc : List Dt) (H' : AH) : Prop
  | mk {hp : List Ce} {K : List Nat} {D : Nat → T} {cs : List (Ce × Ce)} (eq : acc = encPs cs) (hi : cs.length = i) (g : Gr [] H H') (h : StoreH A ⟨hp, [.srf 0, .srf 1], [], 0, 0⟩ H') (B : Bd hp K D []) (hK : K.length ≤ 14 * i) (hh : hp.length ≤ 5 + 42 * i) (hk : H' kd = some (.di (tblK 5)))
    (hs : ∀ j, j < i → ∃ p c d, E[j]? = some p ∧ cs[j]? = some (c, d) ∧ Side hp K D c p.1 ∧ Side hp K D d p.2) : CelI A ea kd E H i acc H'
section
variable {C : Nat → Oracle} {H : AH} {f : Frm} {Q : Post}
theorem law_right_spec (O : Orc C) (k : Nat) {ea : Addr} {p1 p2 : T × T} {o : Bool} {high low : Nat} (hea : H ea = some (.lst ([p1, p2].map encE))) (hside : ∀ p ∈ [p1, p2], p.1.side ∧ p.2.side) (hcheck : o = true ∨ ∃ θ, SolvesE θ [p1, p2])
    (q : ∀ H', Gr [] H H' → Q (.d (.bool true)) H') : C (k + 41) (.fn "_law_right") [.r ea, .d (.bool o), .d (.int (high : Int)), .d (.int (low : Int))] H Q := by
  refine intro4 O def_law_right (by decide) (by decide) (by decide) (by decide) (by decide) (by decide) fun f f2 f3 f9 f8 => ?_
  refine sAsg (new_store_rule O (k + 37) fun H1 A g1 h1 hA => ?_)
  refine sAsg (dctI fun kd hkd => ?_)
  have nil : ∀ {a : Addr}, a ∉ ([] : List Addr) := fun z => (nomatch z)
  have hkA : kd ∉ A.all := h1.ne hkd
  have hk2 := set_at H1 kd (.di [])
  have h2 := h1.new (o := .di []) hkd
  have g2 : Gr [] H (H1.set kd (.di [])) := g1.tr (Gr.new hkd)
  have hkn : H kd = none := g1.back hkd nil
  show Wxs _ _ _ (H1.set kd (.di [])) _
  generalize H1.set kd (.di []) = H2 at hk2 h2 g2 ⊢
  have hM : ∀ a ∈ A.mut, H a = none := fun a ha => hA a (SA.mut_sub ha)
  have heaA : ea ∉ A.all := fun hm => by rw [hA ea hm] at hea; cases hea
  have heaM : ea ∉ A.mut := fun hm => heaA (SA.mut_sub hm)
  have hkM : kd ∉ A.mut := fun hm => hkA (SA.mut_sub hm)
  tb_start
  refine rngU (n := 5) (by decide) (BI A ea kd o high low H) ⟨⟨by k_caught0, by k_caught0, by k_caught0, by k_caught0, by k_caught0, by k_caught0⟩, g2, h2, hk2⟩ (fun i f H' hi I => ?_) fun f H' I => ?_
  · obtain ⟨⟨f1, f2, f3, f4, f8, f9⟩, g, h, hk⟩ := I
    have hll : ((List.range i).map Ce.ref).length = i := (List.length_map ..).trans List.length_range
    tb_start
    refine new_var_spec O (k + 38) h (by rw [hll]; exact Nat.lt_trans hi (by decide)) fun H3 g3 h3 => ?_
    have h3 : StoreH A ⟨(List.range i).map Ce.ref ++ [.ref ((List.range i).map Ce.ref).length], [], [], 0, 0⟩ H3 := h3
    rw [hll] at h3
    rw [show (Ce.ref (Sx.mk ((List.range i).map Ce.ref) [] [] 0 0).heap.length) = .ref i from congrArg Ce.ref hll]
    have hk3 := g3 kd _ hkM hk
    tb_start
    refine ssDi hk3 (by rw [tblK_len]; exact Nat.lt_trans hi (by decide)) ?_
    rw [tblK_put]
    tb_start
    exact ⟨⟨by k_caught0, by k_caught0, by k_caught0, by k_caught0, by k_caught0, by k_caught0⟩, (g.fresh g3 hM).fresh (gr_mem (ms := [kd]) (.head _)) fun a ha => by rw [List.mem_singleton.mp ha]; exact hkn, by rw [List.range_succ, List.map_append]; exact h3.other hkA, set_at _ _ _⟩
  obtain ⟨⟨f1, f2, f3, f4, f8, f9⟩, g, h, hk⟩ := I
  tb_start
  refine stack_put_spec O (k + 39) (c := .srf 0) h (by decide : 0 < 1000) fun H3 g3 h3 => ?_
  tb_start
  refine stack_put_spec O (k + 39) (c := .srf 1) h3 (by decide : 1 < 1000) fun H4 g4 h4 => ?_
  have h4 : StoreH A ⟨(List.range 5).map Ce.ref, [.srf 0, .srf 1], [], 0, 0⟩ H4 := h4
  have g04 : Gr [] H H4 := (g.fresh g3 hM).fresh g4 hM
  have hk4 := g4 kd _ hkM (g3 kd _ hkM hk)
  have hea4 := g04 ea _ nil hea
  tb_start
  refine lcLst .many hea4 (CelI A ea kd [p1, p2] H) (.mk (cs := []) rfl rfl g04 h4 bd_start (Nat.le_refl _) (Nat.le_refl _) hk4 fun j hj => absurd hj (Nat.not_lt_zero _)) (fun i acc H' dd hdd I => ?_) fun acc H' I => ?_
  · obtain ⟨ea', hi, g, h, B, hK, hh, hk, hs⟩ := I
    rename_i hp K D cs
    subst ea'
    obtain ⟨p, hp0, e⟩ := Option.map_eq_some_iff.mp ((List.getElem?_map ..).symm.trans hdd)
    subst e
    have hi2 : i < 2 := (List.getElem?_eq_some_iff.mp hp0).1
    have side := hside p (List.mem_of_getElem? hp0)
    refine ⟨g ea _ nil hea, _, .many (.cons (.cons .nil)), ?_⟩
    have h89 : hp.length ≤ 89 := Nat.le_trans hh (Nat.add_le_add_left (Nat.mul_le_mul_left 42 (Nat.le_of_lt hi2)) 5)
    tb_start
    refine law_cell_spec O (k + 35) h B side.1 (show hp.length ≤ 1000 from Nat.le_trans h89 (by decide)) hk hkA tblK_look tblK_keys fun H5 hp5 K5 D5 c1 g5 h5 b5 gr5 s5 k5 n5 => ?_
    have n5 : hp5.length ≤ hp.length + 21 := n5
    tb_start
    refine law_cell_spec O (k + 35) h5 b5 side.2 (show hp5.length ≤ 1000 from Nat.le_trans n5 (Nat.le_trans (Nat.add_le_add_right h89 21) (by decide))) (g5 kd _ hkM hk) hkA tblK_look tblK_keys fun H6 hp6 K6 D6 c2 g6 h6 b6 gr6 s6 k6 n6 => ?_
    have n6 : hp6.length ≤ hp5.length + 21 := n6
    tb_start
    refine .mk (by rw [show (encPs cs).length = cs.length from List.length_map .., hi]; exact Nat.lt_trans hi2 (by decide)) (.mk (cs := cs ++ [(c1, c2)]) (List.map_append (l₂ := [(c1, c2)])).symm (by rw [List.length_append, hi]; rfl) ((g.fresh g5 hM).fresh g6 hM) h6 b6 (by rw [Nat.mul_succ]; exact Nat.le_trans k6 (Nat.le_trans (Nat.add_le_add_right k5 7) (by rw [Nat.add_assoc]; exact Nat.add_le_add_right hK 14))) (by rw [Nat.mul_succ, ← Nat.add_assoc]; exact Nat.le_trans n6 (Nat.le_trans (Nat.add_le_add_right n5 21) (by rw [Nat.add_assoc]; exact Nat.add_le_add_right hh 42))) (g6 kd _ hkM (g5 kd _ hkM hk)) fun j hj => ?_)
    rcases Nat.lt_succ_iff_lt_or_eq.mp hj with hj | hj
    · obtain ⟨p, c, d, a1, a2, a3, a4⟩ := hs j hj
      exact ⟨p, c, d, a1, by rw [List.getElem?_append_left (hi.symm ▸ hj)]; exact a2, (a3.mono gr5).mono gr6, (a4.mono gr5).mono gr6⟩
    · subst hj
      exact ⟨p, c1, c2, hp0, by rw [← hi]; exact List.getElem?_concat_length, s5.mono gr6, s6⟩
  obtain ⟨ea', hi, g, h, B, hK, hh, hk, hs⟩ := I
  rename_i hp K D cs
  subst ea'
  have hi : cs.length = 2 := hi
  have hK : K.length ≤ 14 * 2 := hK
  have hh : hp.length ≤ 5 + 42 * 2 := hh
  refine ⟨g ea _ nil hea, fun pa hpa => ?_⟩
  have F : EqF A hp K D o ea pa [p1, p2] cs (H'.set pa (.lst (encPs cs))) := ⟨keep_new (g ea _ nil hea) hpa, set_at _ _ _, heaA, h.ne hpa, B, hK, hh, hside, fun i hi => by
    obtain ⟨p, c, d, a1, a2, a3, a4⟩ := hs i hi
    exact ⟨p, c, d, a1, a2, side_eqc B a3 a4⟩, rfl, hi, hcheck⟩
  exact right_trial O k F (h.new hpa) (by k_caught0) (by k_caught0) (by k_caught0) (by k_caught0) (by k_caught0) (by k_caught0) fun H' g' => q H' ((g.tr (Gr.new hpa)).fresh g' hM)
theorem law_pure : ∀ C, Orc C → ∀ ns : List Int, ns.length ≤ 63 → Wxs (C 290) ir_fn_law (frameOf ["script"] [.f ns]) (fun _ => none) (fun fl _ _ => fl = .ret (.d (.bool true))) := by
  intro C O ns _
  have body : ∀ f : Frm, f "script" = some (.f ns) → Wxs (C 290) ir_fn_law f (fun _ => none) (fun fl _ _ => fl = .ret (.d (.bool true))) := by
    intro f f0
    tb_start
    refine row_spec O 289 fun r ms H1 g1 h1 => ?_
    tb_start
    refine equation_spec O 280 h1 fun s1 t1 ns1 H2 g2 h2 a1 a2 => ?_
    tb_start
    refine equation_spec O 280 h2 fun s2 t2 ns2 H3 g3 h3 a3 a4 => ?_
    tb_start
    intro ea hea
    have he4 : (H3.set ea (.lst [encE (s1, t1), encE (s2, t2)])) ea = some (.lst ([(s1, t1), (s2, t2)].map encE)) := set_at H3 ea (.lst [encE (s1, t1), encE (s2, t2)])
    have hr4 := keep_new (o' := .lst [encE (s1, t1), encE (s2, t2)]) h3 hea
    have her : ea ∉ [r] := fun z => ne_new h3 hea (List.mem_singleton.mp z).symm
    show Wxs _ _ _ (H3.set ea (.lst [encE (s1, t1), encE (s2, t2)])) _
    generalize H3.set ea (.lst [encE (s1, t1), encE (s2, t2)]) = H4 at he4 hr4 ⊢
    have hside : ∀ p ∈ [(s1, t1), (s2, t2)], p.1.side ∧ p.2.side := List.forall_mem_cons.mpr ⟨⟨a1, a2⟩, List.forall_mem_cons.mpr ⟨⟨a3, a4⟩, fun _ z => (nomatch z)⟩⟩
    tb_start
    refine next_spec O hr4 fun H5 g5 h5 => ?_
    have he5 := g5 ea _ her he4
    tb_start
    generalize hhi : popV ns2 % 7 = hi
    obtain ⟨high, rfl⟩ : ∃ n : Nat, hi = n := Int.eq_ofNat_of_zero_le (hhi ▸ Int.emod_nonneg _ (by decide))
    tb_start
    refine next_spec O h5 fun H6 g6 h6 => ?_
    have he6 := g6 ea _ her he5
    tb_start
    generalize hlo : popV ns2.dropLast % 3 = lo
    obtain ⟨low, rfl⟩ : ∃ n : Nat, lo = n := Int.eq_ofNat_of_zero_le (hlo ▸ Int.emod_nonneg _ (by decide))
    tb_start
    refine law_right_spec O 249 he6 hside (.inl rfl) fun H7 g7 => ?_
    have he7 := g7 ea _ (fun z => (nomatch z)) he6
    tb_start
    refine law_solved_spec O 287 he7 hside (Nat.le_refl 2) (fun _ H8 g8 => ?_) fun d B δ H8 hG g8 hd => ?_
    · tb_start
      rfl
    · tb_start
      exact law_right_spec O 249 (g8 ea _ (fun z => (nomatch z)) he7) hside (.inr ⟨δ, hG.solves⟩) fun H9 g9 => rfl
  exact body _ ((congrFun (frS _ _ [] []) _).trans (putAt _ _ _))
end
mutual
noncomputable def Dt.toP : Dt → PyData
  | .none => .none
  | .bool b => .bool b
  | .int i => .int i
  | .str x => .str x
  | .tup ds => .tuple (Dt.toPs ds)
noncomputable def Dt.toPs : List Dt → List PyData
  | [] => []
  | d :: ds => Dt.toP d :: Dt.toPs ds
end
mutual
theorem Dt.canLay : ∀ d : Dt, d.plain = true → d.toP.canLay0 = true
  | .none, _ => rfl
  | .bool _, h => by simp [Dt.plain] at h
  | .int _, _ => rfl
  | .str x, h => by simpa [Dt.plain, Dt.toP, PyData.canLay0] using h
  | .tup ds, h => by
    simp only [Dt.toP, PyData.canLay0]
    exact Dt.canLays ds (by simpa [Dt.plain] using h)
theorem Dt.canLays : ∀ ds : List Dt, Dt.plains ds = true → PyData.canLayAll0 (Dt.toPs ds) = true
  | [], _ => rfl
  | d :: ds, h => by
    have h' : d.plain = true ∧ Dt.plains ds = true := by simpa [Dt.plains] using h
    simp only [Dt.toPs, PyData.canLayAll0, Dt.canLay d h'.1, Dt.canLays ds h'.2, Bool.and_self]
end
mutual
theorem Dt.depth_toP : ∀ d : Dt, d.toP.depth = d.depth
  | .none => rfl
  | .bool _ => rfl
  | .int _ => rfl
  | .str _ => rfl
  | .tup ds => by simp only [Dt.toP, PyData.depth, Dt.depth, Dt.depths_toP ds]
theorem Dt.depths_toP : ∀ ds : List Dt, PyData.depthAll (Dt.toPs ds) = Dt.depths ds
  | [] => rfl
  | d :: ds => by simp only [Dt.toPs, PyData.depthAll, Dt.depths, Dt.depth_toP d, Dt.depths_toP ds]
end
mutual
theorem Dt.eqv_iff : ∀ d e : Dt, d.plain = true → e.plain = true → (PyData.eqv d.toP e.toP = true ↔ d = e)
  | .bool _, _, h, _ => by simp [Dt.plain] at h
  | _, .bool _, _, h => by simp [Dt.plain] at h
  | .tup ds, .tup es, h, k => by
    simp only [Dt.toP, PyData.eqv, Dt.tup.injEq]
    exact Dt.eqvs_iff ds es (by simpa [Dt.plain] using h) (by simpa [Dt.plain] using k)
  | .none, .none, _, _ => by simp [Dt.toP, PyData.eqv]
  | .none, .int _, _, _ => by simp [Dt.toP, PyData.eqv]
  | .none, .str _, _, _ => by simp [Dt.toP, PyData.eqv]
  | .none, .tup _, _, _ => by simp [Dt.toP, PyData.eqv]
  | .int _, .none, _, _ => by simp [Dt.toP, PyData.eqv]
  | .int _, .int _, _, _ => by simp [Dt.toP, PyData.eqv]
  | .int _, .str _, _, _ => by simp [Dt.toP, PyData.eqv]
  | .int _, .tup _, _, _ => by simp [Dt.toP, PyData.eqv]
  | .str _, .none, _, _ => by simp [Dt.toP, PyData.eqv]
  | .str _, .int _, _, _ => by simp [Dt.toP, PyData.eqv]
  | .str _, .str _, _, _ => by simp [Dt.toP, PyData.eqv]
  | .str _, .tup _, _, _ => by simp [Dt.toP, PyData.eqv]
  | .tup _, .none, _, _ => by simp [Dt.toP, PyData.eqv]
  | .tup _, .int _, _, _ => by simp [Dt.toP, PyData.eqv]
  | .tup _, .str _, _, _ => by simp [Dt.toP, PyData.eqv]
theorem Dt.eqvs_iff : ∀ ds es : List Dt, Dt.plains ds = true → Dt.plains es = true → (PyData.eqvAll (Dt.toPs ds) (Dt.toPs es) = true ↔ ds = es)
  | [], [], _, _ => by simp [Dt.toPs, PyData.eqvAll]
  | [], _ :: _, _, _ => by simp [Dt.toPs, PyData.eqvAll]
  | _ :: _, [], _, _ => by simp [Dt.toPs, PyData.eqvAll]
  | d :: ds, e :: es, h, k => by
    have h' : d.plain = true ∧ Dt.plains ds = true := by simpa [Dt.plains] using h
    have k' : e.plain = true ∧ Dt.plains es = true := by simpa [Dt.plains] using k
    simp only [Dt.toPs, PyData.eqvAll, Bool.and_eq_true, Dt.eqv_iff d e h'.1 k'.1, Dt.eqvs_iff ds es h'.2 k'.2, List.cons.injEq]
end
def TupO (h : Heap) (a : Addr) (vs : List Value) : Prop := ∃ n, h.get? a = some ({ cls := .type "tuple", data := .seq vs.toArray n } : Obj)
theorem TupO.is {h : Heap} {a : Addr} {vs : List Value} (x : TupO h a vs) : IsTup h a vs.toArray := let ⟨n, e⟩ := x; ⟨_, e, rfl, n, rfl⟩
theorem TupO.new (h : Heap) (vs : List Value) : TupO (h.push { cls := .type "tuple", data := .seq vs.toArray }) h.objs.size vs := ⟨0, Heap.get?_push_size _ rfl⟩
mutual
inductive DtIn (h : Heap) : Value → Dt → Prop
  | none : DtIn h .none .none
  | bool (b : Bool) : DtIn h (.bool b) (.bool b)
  | int (i : Int) (t : Tok) : DtIn h (.int i t) (.int i)
  | str (x : Str) (t : Tok) : DtIn h (.str x t) (.str x)
  | tup {a : Addr} {vs : List Value} {ds : List Dt} : TupO h a vs → DtAll h vs ds → DtIn h (.ref a) (.tup ds)
inductive DtAll (h : Heap) : List Value → List Dt → Prop
  | nil : DtAll h [] []
  | cons {v : Value} {vs : List Value} {d : Dt} {ds : List Dt} : DtIn h v d → DtAll h vs ds → DtAll h (v :: vs) (d :: ds)
end
def TupKeep (h h' : Heap) : Prop := ∀ b o items n, h.get? b = some o → o.cls = .type "tuple" → o.data = .seq items n → h'.get? b = some o
theorem TupKeep.refl (h : Heap) : TupKeep h h := fun _ _ _ _ e _ _ => e
theorem TupKeep.trans {h1 h2 h3 : Heap} (x : TupKeep h1 h2) (y : TupKeep h2 h3) : TupKeep h1 h3 := fun b o i n e c d => y b o i n (x b o i n e c d) c d
theorem TupKeep.tup {h h' : Heap} (k : TupKeep h h') {a : Addr} {vs : List Value} (x : TupO h a vs) : TupO h' a vs := let ⟨n, e⟩ := x; ⟨n, k a _ _ n e rfl rfl⟩
mutual
theorem DtIn.keep {h h' : Heap} (k : TupKeep h h') : ∀ {v : Value} {d : Dt}, DtIn h v d → DtIn h' v d
  | _, _, .none => .none
  | _, _, .bool b => .bool b
  | _, _, .int i t => .int i t
  | _, _, .str x t => .str x t
  | _, _, .tup x r => .tup (k.tup x) (DtAll.keep k r)
theorem DtAll.keep {h h' : Heap} (k : TupKeep h h') : ∀ {vs : List Value} {ds : List Dt}, DtAll h vs ds → DtAll h' vs ds
  | _, _, .nil => .nil
  | _, _, .cons x r => .cons (DtIn.keep k x) (DtAll.keep k r)
end
mutual
theorem DtIn.reads {h : Heap} : ∀ {v : Value} {d : Dt}, DtIn h v d → Reads h v d.toP []
  | _, _, .none => .none
  | _, _, .bool b => .bool b
  | _, _, .int i t => .int i t
  | _, _, .str x t => .str x t
  | _, _, .tup ⟨n, ho⟩ r => by
    rw [Dt.toP]
    exact .tuple ho rfl rfl (by simpa using DtAll.reads r)
theorem DtAll.reads {h : Heap} : ∀ {vs : List Value} {ds : List Dt}, DtAll h vs ds → ReadsAll h vs (Dt.toPs ds) []
  | _, _, .nil => .nil
  | _, _, .cons x r => by
    rw [Dt.toPs]
    exact .cons (as := []) (bs := []) (DtIn.reads x) (DtAll.reads r)
end
section
variable {h : Heap} {v : Value} {d : Dt} {vs ws : List Value} {ds es : List Dt}
theorem DtAll.length (x : DtAll h vs ds) : vs.length = ds.length := by
  induction vs generalizing ds with
  | nil => cases x; rfl
  | cons v vs ih => cases x with | cons _ r => simp [ih r]
theorem DtAll.append (x : DtAll h vs ds) (y : DtAll h ws es) : DtAll h (vs ++ ws) (ds ++ es) := by
  induction vs generalizing ds with
  | nil => cases x; exact y
  | cons v vs ih => cases x with | cons a r => exact .cons a (ih r)
theorem DtAll.get (x : DtAll h vs ds) {k : Nat} {d : Dt} (hk : ds[k]? = some d) : ∃ v, vs[k]? = some v ∧ DtIn h v d := by
  induction vs generalizing ds k with
  | nil => cases x; simp at hk
  | cons v vs ih =>
    cases x with
    | cons a r =>
      cases k with
      | zero => simp at hk; subst hk; exact ⟨v, rfl, a⟩
      | succ k => simpa using ih r (by simpa using hk)
theorem DtAll.set (x : DtAll h vs ds) (y : DtIn h v d) (k : Nat) : DtAll h (vs.set k v) (ds.set k d) := by
  induction vs generalizing ds k with
  | nil => cases x; exact .nil
  | cons u vs ih =>
    cases x with
    | cons a r =>
      cases k with
      | zero => exact .cons y r
      | succ k => exact .cons a (ih r k)
theorem DtAll.take (x : DtAll h vs ds) (k : Nat) : DtAll h (vs.take k) (ds.take k) := by
  induction vs generalizing ds k with
  | nil => cases x; simp; exact .nil
  | cons u vs ih =>
    cases x with
    | cons a r =>
      cases k with
      | zero => exact .nil
      | succ k => exact .cons a (ih r k)
theorem DtAll.drop (x : DtAll h vs ds) (k : Nat) : DtAll h (vs.drop k) (ds.drop k) := by
  induction vs generalizing ds k with
  | nil => cases x; simp; exact .nil
  | cons u vs ih =>
    cases x with
    | cons a r =>
      cases k with
      | zero => exact .cons a r
      | succ k => exact ih r k
theorem DtAll.one (x : DtIn h v d) : DtAll h [v] [d] := .cons x .nil
theorem DtAll.rev (x : DtAll h vs ds) : DtAll h vs.reverse ds.reverse := by
  induction vs generalizing ds with
  | nil => cases x; exact .nil
  | cons u vs ih =>
    cases x with
    | cons a r => simp only [List.reverse_cons]; exact (ih r).append (.one a)
theorem DtIn.intEq {i : Int} (x : DtIn h v (.int i)) : ∃ t, v = .int i t := by cases x; exact ⟨_, rfl⟩
theorem DtIn.strEq {i : Str} (x : DtIn h v (.str i)) : ∃ t, v = .str i t := by cases x; exact ⟨_, rfl⟩
theorem DtIn.boolEq {i : Bool} (x : DtIn h v (.bool i)) : v = .bool i := by cases x; rfl
theorem DtIn.noneEq (x : DtIn h v .none) : v = .none := by cases x; rfl
theorem DtIn.tupEq (x : DtIn h v (.tup ds)) : ∃ a vs, v = .ref a ∧ TupO h a vs ∧ DtAll h vs ds := by cases x with | tup a b => exact ⟨_, _, rfl, a, b⟩
end
structure Cx where
  prog : Program
  w : World
  K : Frag
  hB : Heap
  mg : Str → Option Value
  mb : Str → Option Value
  p : Program
  loose : List Str
  mean : ExcName → Option Value
  X : K.In hB
  T : Top p loose mean mg mb hB
  cadr : Cl → Addr
  fadr : Fk → Addr
def VRep (c : Cx) (h : Heap) (x : Value) : AV → Prop
  | .d d => DtIn h x d
  | .r a => x = .ref a
  | .f is => ∃ a vs, x = .ref a ∧ c.hB.IsList a (List.toArray vs) ∧ IntsAre vs is ∧ is.length ≤ 1000
inductive KvAll {K : Type} (h : Heap) : List (K × Value) → List (K × Dt) → Prop
  | nil : KvAll h [] []
  | cons {k : K} {v : Value} {d : Dt} {r : List (K × Value)} {t : List (K × Dt)} : DtIn h v d → KvAll h r t → KvAll h ((k, v) :: r) ((k, d) :: t)
inductive NsAll (c : Cx) (h : Heap) : List DictEntry → List (Str × AV) → Prop
  | nil : NsAll c h [] []
  | cons {e : DictEntry} {r : List DictEntry} {x : Str} {v : AV} {t : Tok} {fs : List (Str × AV)} : e.key = .str x t → VRep c h e.val v → NsAll c h r fs → NsAll c h (e :: r) ((x, v) :: fs)
def DtTab (c : Cx) (h : Heap) (a : Addr) (es : List (List Int × Int)) : Prop :=
  ∃ xs : List (List Int × Addr × Value), h.DictOfH (tupleKind (intKind c.prog c.w)) a xs ∧ KvAll h (xs.map fun x => (x.1, x.2.2)) (es.map fun e => (e.1, Dt.int e.2))
def ORep (c : Cx) (h : Heap) (a : Addr) : AO → Prop
  | .lst ds => ∃ vs n, h.get? a = some (listOf (List.toArray vs) n) ∧ DtAll h vs ds ∧ ds.length ≤ 2 * lim
  | .di es => (∃ kvs, h.DictOf (intKind c.prog c.w) a kvs ∧ KvAll h kvs es) ∧ es.length ≤ lim
  | .ds es => (∃ kvs, h.DictOf (strKind c.prog c.w) a kvs ∧ KvAll h kvs (es.map fun e => (e.1, Dt.int e.2))) ∧ es.length ≤ lim
  | .dt es => DtTab c h a es ∧ es.length ≤ lim
  | .set is => h.SetOf (intKind c.prog c.w) a (fun k => is.contains k) is.length
  | .inst cl dx => h.get? a = some (instObj (c.cadr cl) dx)
  | .ns fs => ∃ es n, h.get? a = some (dictOf es n) ∧ NsAll c h es fs
structure Rel (c : Cx) (H : AH) (h : Heap) : Prop where
  keep : ∀ b o, c.hB.get? b = some o → h.get? b = some o
  fresh : ∀ a, H a ≠ none → c.hB.objs.size ≤ a
  objs : ∀ a o, H a = some o → ORep c h a o
def VarAt (c : Cx) (env : Env) (m : Str → Option Value) (h : Heap) (x : Str) (v : AV) : Prop :=
  (env.kindOf x = some .local ∧ ∃ y, m x = some y ∧ VRep c h y v) ∨
  ((env.kindOf x = some .cell ∨ env.kindOf x = some .free) ∧ ∃ a y, env.cells.lookup x = some a ∧ h.IsCell a (some y) ∧ VRep c h y v)
structure EnvOK (c : Cx) (env : Env) : Prop where
  kind : env.scope.kind = .function
  glob : env.globals = mainGlobals
  bui : env.builtins = builtinsNs
  above : c.hB.objs.size ≤ env.locals
  cinj : ∀ x y a, env.cells.lookup x = some a → env.cells.lookup y = some a → x = y
  cabove : ∀ x a, env.cells.lookup x = some a → c.hB.objs.size ≤ a
  cdef : ∀ x, env.kindOf x = some .cell → ∃ a, env.cells.lookup x = some a
structure FrRel (c : Cx) (env : Env) (f : Frm) (H : AH) (h : Heap) : Prop where
  ok : EnvOK c env
  vars : ∃ m, h.Ns env.locals m ∧ ∀ x v, f x = some v → VarAt c env m h x v
  cells : ∀ x a, env.cells.lookup x = some a → ∃ v, h.IsCell a v
  off : H env.locals = none
  coff : ∀ x a, env.cells.lookup x = some a → H a = none
structure Ext (own : Addr → Prop) (H : AH) (s : Shared) (H' : AH) (s' : Shared) : Prop where
  keep : ∀ b o, s.heap.get? b = some o → H b = none → ¬ own b → s'.heap.get? b = some o
  live : ∀ b, (s.heap.get? b).isSome = true → (s'.heap.get? b).isSome = true
  dom : ∀ b, H' b ≠ none → H b ≠ none ∨ s.heap.get? b = none
  tup : TupKeep s.heap s'.heap
  gens : s'.gens = s.gens
  os : s'.os = s.os
theorem Ext.refl (own : Addr → Prop) (H : AH) (s : Shared) : Ext own H s H s := ⟨fun _ _ e _ _ => e, fun _ h => h, fun _ h => .inl h, TupKeep.refl _, rfl, rfl⟩
theorem Ext.tok {own : Addr → Prop} {H H' : AH} {s s' : Shared} (x : Ext own H s H' s') (t : Nat) : Ext own H s H' { s' with toks := t } := ⟨x.keep, x.live, x.dom, x.tup, x.gens, x.os⟩
theorem Ext.out {own : Addr → Prop} {H1 H2 : AH} {s1 s2 : Shared} (x : Ext own H1 s1 H2 s2) {b : Addr} {o : Obj} (e : s1.heap.get? b = some o) (n1 : H1 b = none) : H2 b = none := by
  cases q : H2 b with
  | none => rfl
  | some z =>
    rcases x.dom b (by rw [q]; exact fun h => by cases h) with h | h
    · exact absurd n1 h
    · rw [e] at h; cases h
theorem Ext.trans {own : Addr → Prop} {H1 H2 H3 : AH} {s1 s2 s3 : Shared} (x : Ext own H1 s1 H2 s2) (y : Ext own H2 s2 H3 s3) : Ext own H1 s1 H3 s3 where
  keep b o e n1 n2 := y.keep b o (x.keep b o e n1 n2) (x.out e n1) n2
  live b h := y.live b (x.live b h)
  dom b hb := by
    rcases y.dom b hb with h | h
    · exact x.dom b h
    · cases q : s1.heap.get? b with
      | none => exact .inr rfl
      | some o =>
        have := x.live b (by rw [q]; rfl)
        rw [h] at this; cases this
  tup := x.tup.trans y.tup
  gens := y.gens.trans x.gens
  os := y.os.trans x.os
theorem Ext.weaken {own own' : Addr → Prop} {H1 H2 : AH} {s1 s2 : Shared} (x : Ext own H1 s1 H2 s2) (h : ∀ b, own b → own' b) : Ext own' H1 s1 H2 s2 :=
  ⟨fun b o e n1 n2 => x.keep b o e n1 fun q => n2 (h b q), x.live, x.dom, x.tup, x.gens, x.os⟩
theorem VRep.keep {c : Cx} {h h' : Heap} (k : TupKeep h h') {x : Value} {v : AV} (r : VRep c h x v) : VRep c h' x v := by
  cases v with
  | d d => exact DtIn.keep k r
  | r a => exact r
  | f is => exact r
theorem KvAll.keep {K : Type} {h h' : Heap} (k : TupKeep h h') {kvs : List (K × Value)} {es : List (K × Dt)} (r : KvAll h kvs es) : KvAll h' kvs es := by
  induction r with
  | nil => exact .nil
  | cons a _ ih => exact .cons (a.keep k) ih
theorem NsAll.keep {c : Cx} {h h' : Heap} (k : TupKeep h h') {es : List DictEntry} {fs : List (Str × AV)} (r : NsAll c h es fs) : NsAll c h' es fs := by
  induction r with
  | nil => exact .nil
  | cons a b _ ih => exact .cons a (b.keep k) ih
structure St (c : Cx) (env : Env) (f : Frm) (H : AH) (s : Shared) : Prop where
  rel : Rel c H s.heap
  fr : FrRel c env f H s.heap
theorem St.tok {c : Cx} {env : Env} {f : Frm} {H : AH} {s : Shared} (x : St c env f H s) (t : Nat) : St c env f H { s with toks := t } := ⟨x.rel, x.fr⟩
def NoE : Value → Shared → Prop := fun _ _ => False
abbrev ownL (env : Env) : Addr → Prop := fun b => b = env.locals
inductive EP (c : Cx) (env : Env) (f : Frm) (H : AH) (s : Shared) (Q : Post) (x : Value) (s' : Shared) : Prop
  | mk {v : AV} {H' : AH} (q : Q v H') (r : VRep c s'.heap x v) (t : St c env f H' s') (k : Ext (ownL env) H s H' s') : EP c env f H s Q x s'
theorem EP.from {c : Cx} {env : Env} {f : Frm} {H H1 : AH} {s s1 : Shared} {Q : Post} {x : Value} {s' : Shared} (k : Ext (ownL env) H s H1 s1) (e : EP c env f H1 s1 Q x s') : EP c env f H s Q x s' := by
  cases e with | mk q r t y => exact .mk q r t (k.trans y)
structure GoodA (k : Nat) (A : Around) : Prop where
  hd : A.handled = none
  depth : A.depth + 2 * k < 900
  units : A.units + 8 * k + 2100 < cLine
structure GoodC (k : Nat) (A : Around) : Prop where
  hd : A.handled = none
  depth : A.depth + 2 * k < 901
  units : A.units + 8 * k + 2098 < cLine
theorem GoodA.call {k : Nat} {A : Around} (g : GoodA k A) : GoodC k A := ⟨g.hd, by have := g.depth; omega, by have := g.units; omega⟩
theorem GoodA.eq {k : Nat} {A : Around} (g : GoodA k A) : A.units + 2001 < cLine := by have := g.units; omega
abbrev SndO (c : Cx) (C : Oracle) (env : Env) (e : Expr) (ir : IE) (k : Nat) : Prop :=
  ∀ (A : Around) (f : Frm) (H : AH) (Q : Post) (s : Shared), GoodA k A → St c env f H s → We C ir f H Q → wpAny (model c.prog c.w) A (eval e env) (EP c env f H s Q) NoE s
section
variable {c : Cx} {C : Oracle} {env : Env} {k : Nat} {A : Around} {f : Frm} {H : AH} {s : Shared} {Q : Post}
theorem EP.now {v : AV} {x : Value} (q : Q v H) (r : VRep c s.heap x v) (t : St c env f H s) : EP c env f H s Q x s := .mk q r t (Ext.refl _ _ _)
theorem EP.tok1 {v : AV} {x : Value} (q : Q v H) (r : VRep c s.heap x v) (t : St c env f H s) (n : Nat) : EP c env f H s Q x { s with toks := n } := .mk q r (t.tok _) ((Ext.refl _ _ _).tok _)
theorem SndO.go {e : Expr} {i : IE} (h1 : SndO c C env e i k) (g : GoodA k A) (t : St c env f H s) {P : Post} (h : We C i f H P) {R : Value → Shared → Prop} (fin : ∀ a x H1 s1, P x H1 → VRep c s1.heap a x → St c env f H1 s1 → Ext (ownL env) H s H1 s1 → R a s1) :
    wpAny (model c.prog c.w) A (eval e env) R NoE s := wpAny_mono (h1 A f H _ s g t h) (fun a s1 e => by cases e with | mk q r t k => exact fin _ _ _ _ q r t k) fun _ _ z => z
theorem wpFrom {m : Sem Value} {H1 : AH} {s1 s2 : Shared} (k : Ext (ownL env) H s H1 s1) (h : wpAny (model c.prog c.w) A m (EP c env f H1 s1 Q) NoE s2) : wpAny (model c.prog c.w) A m (EP c env f H s Q) NoE s2 :=
  wpAny_mono h (fun _ _ p => p.from k) fun _ _ z => z
theorem snd_loc {x : Str} {pos : Pos} (hx : (x == ("__debug__" : Str)) = false) (hc : (x == ("__classdict__" : Str)) = false) : SndO c C env (.Name x pos) (.loc x) k := by
  intro A f H Q s g t h
  obtain ⟨v, hv, hq⟩ := (h : ∃ v, f x = some v ∧ Q v H)
  obtain ⟨m, hn, hm⟩ := t.fr.vars
  rcases hm x v hv with ⟨hk, y, hy, r⟩ | ⟨hk, a, y, ha, hcell, r⟩
  · exact wpAny_Name (wpAny_loadName_local t.fr.ok.kind hk hn hy (.now hq r t)) hx
  · rcases hk with hk | hk
    · exact wpAny_Name (wpAny_loadName_cell t.fr.ok.kind hk ha hcell (.now hq r t)) hx
    · exact wpAny_Name (wpAny_loadName_free t.fr.ok.kind hk ha hcell (.now hq r t) hc) hx
theorem snd_int {i : Int} {kk : Nat} {pos : Pos} : SndO c C env (.Constant (.int i) kk pos) (.con (.int i)) k := fun A f H Q s g t h => wpAny_Constant_int (EP.tok1 (v := .d (.int i)) h (DtIn.int i s.toks) t _)
theorem snd_str {x : Str} {kk : Nat} {pos : Pos} : SndO c C env (.Constant (.str x) kk pos) (.con (.str x)) k := fun A f H Q s g t h => PySem.Calls.Constant_str (EP.tok1 (v := .d (.str x)) h (DtIn.str x s.toks) t _)
theorem snd_bool {b : Bool} {kk : Nat} {pos : Pos} : SndO c C env (.Constant (.bool b) kk pos) (.con (.bool b)) k := fun A f H Q s g t h => PyProof.Rows.Constant_bool (EP.now (v := .d (.bool b)) h (DtIn.bool b) t)
theorem snd_none {kk : Nat} {pos : Pos} : SndO c C env (.Constant .none kk pos) (.con .none) k := fun A f H Q s g t h => PyProof.Rows.Constant_none (EP.now (v := .d .none) h DtIn.none t)
theorem snd_gint {x : Str} {pos : Pos} {i : Int} {tk : Tok} (hx : env.kindOf x = some .globalImplicit) (e : nsIn c.K mainGlobals x = some (some (.int i tk)))
    (hd : (x == ("__debug__" : Str)) = false) : SndO c C env (.Name x pos) (.con (.int i)) k := fun A f H Q s g t h =>
  PySem.Calls.Name_function_global t.fr.ok.kind hx (PySem.Calls.loadGlobal_global (env := env) (by rw [t.fr.ok.glob]; exact c.T.g.keeps t.rel.keep) (mg_of c.X c.T.g e) (EP.now (v := .d (.int i)) h (DtIn.int i tk) t)) hd
theorem seq2 {e1 e2 : Expr} {i1 i2 : IE} {R : Value → Value → Sem Value} (h1 : SndO c C env e1 i1 k) (h2 : SndO c C env e2 i2 k) (g : GoodA k A) (t : St c env f H s)
    {P : AV → AV → AH → Prop} (h : We C i1 f H fun x H1 => We C i2 f H1 (P x))
    (fin : ∀ a b x y H2 s2, P x y H2 → VRep c s2.heap a x → VRep c s2.heap b y → St c env f H2 s2 → wpAny (model c.prog c.w) A (R a b) (EP c env f H2 s2 Q) NoE s2) :
    wpAny (model c.prog c.w) A (eval e1 env) (fun a s1 => wpAny (model c.prog c.w) A (eval e2 env) (fun b s2 => wpAny (model c.prog c.w) A (R a b) (EP c env f H s Q) NoE s2) NoE s1) NoE s :=
  h1.go g t h fun a x H1 s1 hx rx t1 k1 => h2.go g t1 hx fun b y H2 s2 hy ry t2 k2 => wpFrom (k1.trans k2) (fin a b x y H2 s2 hy (rx.keep k2.tup) ry t2)
theorem snd_neg {e : Expr} {i : IE} {pos : Pos} (h1 : SndO c C env e i k) : SndO c C env (.UnaryOp .USub e pos) (.neg i) k := by
  intro A f H Q s g t h
  refine wpAny_UnaryOp (h1.go g t (h : We C i f H (negQ Q)) fun a x H1 s1 hx rx t1 k1 => ?_)
  cases hx with
  | mk hx =>
    obtain ⟨u, rfl⟩ := DtIn.intEq rx
    exact PyProof.Rows.neg_int ((EP.tok1 (v := .d (.int _)) hx (DtIn.int _ _) t1 _).from k1)
theorem binV_rule {op : Operator} {x y z : Dt} {a b : Value} {h : Heap} (hz : BinV op x y z) (ra : DtIn h a x) (rb : DtIn h b y) {Q : Value → Shared → Prop}
    (q : ∀ t n, DtIn s.heap t z → Q t { s with toks := n }) : wpAny (model c.prog c.w) A (binaryOp op a b) Q NoE s := by
  cases hz with
  | add =>
    obtain ⟨u, rfl⟩ := ra.intEq
    obtain ⟨v, rfl⟩ := rb.intEq
    exact PyProof.Rows.add_int (q _ _ (DtIn.int _ _))
  | sub =>
    obtain ⟨u, rfl⟩ := ra.intEq
    obtain ⟨v, rfl⟩ := rb.intEq
    exact PyProof.Rows.sub_int (q _ _ (DtIn.int _ _))
  | mul hb =>
    obtain ⟨u, rfl⟩ := ra.intEq
    obtain ⟨v, rfl⟩ := rb.intEq
    exact PyProof.Rows.mul_int (q _ _ (DtIn.int _ _)) (IntMulOk.of_right (intBits_le_64 (by omega) (by omega)))
  | mod h1 h2 =>
    obtain ⟨u, rfl⟩ := ra.intEq
    obtain ⟨v, rfl⟩ := rb.intEq
    refine PyProof.Rows.mod_int (Int.ne_of_gt h1) ?_
    rw [Int.fmod_eq_emod_of_nonneg _ (Int.le_of_lt h1)]
    exact q _ _ (DtIn.int _ _)
  | pow =>
    obtain ⟨u, rfl⟩ := ra.intEq
    obtain ⟨v, rfl⟩ := rb.intEq
    exact PyProof.Rows.pow_int_small (by decide) (by decide) (by decide) (q _ _ (DtIn.int _ _))
  | div h1 h2 =>
    obtain ⟨u, rfl⟩ := ra.intEq
    obtain ⟨v, rfl⟩ := rb.intEq
    refine PyProof.Rows.floordiv_int (Int.ne_of_gt h1) ?_ (.inl (PyProof.noPylong_small (by omega)))
    rw [Int.fdiv_eq_ediv_of_nonneg _ (Int.le_of_lt h1)]
    exact q _ _ (DtIn.int _ _)
theorem snd_bin {op : Operator} {e1 e2 : Expr} {i1 i2 : IE} {pos : Pos} (h1 : SndO c C env e1 i1 k) (h2 : SndO c C env e2 i2 k) : SndO c C env (.BinOp e1 op e2 pos) (.bin op i1 i2) k := by
  intro A f H Q s g t h
  refine wpAny_BinOp (seq2 h1 h2 g t (h : We C i1 f H fun x H1 => We C i2 f H1 (binQ op x Q)) fun a b x y H2 s2 hp ra rb t2 => ?_)
  cases hp with
  | mk hz hq => exact binV_rule hz ra rb fun u n r => EP.tok1 (v := .d _) hq r t2 n
end
theorem lookK_kv {K : Type} [DecidableEq K] {h : Heap} {kvs : List (K × Value)} {es : List (K × Dt)} (r : KvAll h kvs es) (k : K) :
    (valueAt kvs k = none ∧ lookK k es = none) ∨ ∃ v d, valueAt kvs k = some v ∧ lookK k es = some d ∧ DtIn h v d := by
  induction r with
  | nil => exact .inl ⟨rfl, rfl⟩
  | @cons k' v d r t a _ ih =>
    by_cases hk : k' = k
    · subst hk
      exact .inr ⟨v, d, by simp [valueAt], by simp [lookK], a⟩
    · have e1 : valueAt ((k', v) :: r) k = valueAt r k := by simp [valueAt, hk]
      have e2 : lookK k ((k', d) :: t) = lookK k t := by simp [lookK, hk]
      rw [e1, e2]; exact ih
theorem KvAll.length {K : Type} {h : Heap} {kvs : List (K × Value)} {es : List (K × Dt)} (r : KvAll h kvs es) : kvs.length = es.length := by
  induction r with
  | nil => rfl
  | cons _ _ ih => simp [ih]
theorem KvAll.keys {K : Type} {h : Heap} {kvs : List (K × Value)} {es : List (K × Dt)} (r : KvAll h kvs es) : kvs.map (·.1) = es.map (·.1) := by
  induction r with
  | nil => rfl
  | cons _ _ ih => simp [ih]
theorem Rel.notSys {c : Cx} {H : AH} {h : Heap} (R : Rel c H h) {a : Addr} (ha : H a ≠ none) : (a == sysModules) = false := by
  have h1 := R.fresh a ha
  obtain ⟨mc, hn, _⟩ := c.T.nolimit
  have h2 : cStatics < c.hB.objs.size := hn.lt
  rw [beq_eq_false_iff_ne]
  intro e
  rw [e] at h1
  exact absurd (Nat.lt_of_lt_of_le (show 2 < c.hB.objs.size from h2) (show c.hB.objs.size ≤ 1 from h1)) (by decide)
section
variable {c : Cx} {C : Oracle} {env : Env} {k : Nat} {A : Around} {f : Frm} {H : AH} {s : Shared} {Q : Post}
theorem eqV_of {P : Prop} {a z : Bool} (h : a = true ↔ P) (hz : z = true ↔ P) : a = z := Bool.eq_iff_iff.mpr (h.trans hz.symm)
theorem lst_reads {h : Heap} {a : Addr} {vs : List Value} {n : Nat} {ds : List Dt} (h1 : h.get? a = some (listOf vs.toArray n)) (h2 : DtAll h vs ds) : Reads h (.ref a) (.list (Dt.toPs ds)) [a] :=
  .list h1 rfl rfl h2.reads
inductive EqR (h : Heap) (a b : Value) (z : Bool) : Prop
  | mk {da db : PyData} {as bs : List Addr} (r1 : Reads h a da as) (r2 : Reads h b db bs) (c1 : da.canLay0 = true) (c2 : db.canLay0 = true) (d : da.depth ≤ 2001) (e : PyData.eqv da db = z) : EqR h a b z
theorem eqV_val {x y : AV} {z : Bool} {a b : Value} (h : EqV H x y z) (R : Rel c H s.heap) (ra : VRep c s.heap a x) (rb : VRep c s.heap b y) : EqR s.heap a b z := by
  cases h with
  | bool => exact .mk (DtIn.reads ra) (DtIn.reads rb) rfl rfl (Nat.zero_le _) rfl
  | dt hx hy hz => exact .mk (DtIn.reads ra) (DtIn.reads rb) (Dt.canLay _ hx.plain) (Dt.canLay _ hy.plain) (by rw [Dt.depth_toP]; exact Nat.le_succ_of_le hx.depth) (eqV_of (Dt.eqv_iff _ _ hx.plain hy.plain) hz)
  | lst e1 e2 ox oy hz =>
    obtain ⟨vs, n, g1, g2, _⟩ := R.objs _ _ e1
    obtain ⟨ws, m, g3, g4, _⟩ := R.objs _ _ e2
    obtain rfl : a = .ref _ := ra
    obtain rfl : b = .ref _ := rb
    exact .mk (lst_reads g1 g2) (lst_reads g3 g4) (Dt.canLays _ ox.plain) (Dt.canLays _ oy.plain) (by show PyData.depthAll _ + 1 ≤ 2001; rw [Dt.depths_toP]; exact Nat.succ_le_succ ox.depth) (eqV_of (Dt.eqvs_iff _ _ ox.plain oy.plain) hz)
inductive NoneR (a : Value) : Bool → Prop
  | t (e : a = .none) : NoneR a true
  | f (e : a ≠ .none) : NoneR a false
theorem isNone_rule {x : AV} {z : Bool} {a : Value} {h : Heap} (hz : NoneV x z) (ra : VRep c h a x) : NoneR a z := by
  cases hz with
  | none => exact .t (DtIn.noneEq ra)
  | tup => obtain ⟨a, vs, rfl, _⟩ := DtIn.tupEq ra; exact .f fun h => nomatch h
  | bool => obtain rfl := DtIn.boolEq ra; exact .f fun h => nomatch h
  | ref => obtain rfl : a = .ref _ := ra; exact .f fun h => nomatch h
theorem look_some {K : Type} [DecidableEq K] {h : Heap} {kvs : List (K × Value)} {es : List (K × Dt)} (r : KvAll h kvs es) (k : K) : (valueAt kvs k).isSome = (lookK k es).isSome := by
  rcases lookK_kv r k with ⟨w1, w2⟩ | ⟨v, d, w1, w2, _⟩ <;> rw [w1, w2] <;> rfl
theorem obj_ne {a : Addr} {o : AO} (e : H a = some o) : H a ≠ none := fun h => by rw [e] at h; cases h
theorem in_rule {i : Int} {p : Addr} {z : Bool} {a b : Value} (hz : InV H i p z) (R : Rel c H s.heap) (ra : VRep c s.heap a (.d (.int i))) (rb : VRep c s.heap b (.r p)) {Q : Value → Shared → Prop}
    (q : ∀ n, Q (.bool z) { s with toks := n }) : wpAny (model c.prog c.w) A (compareOp .In a b) Q NoE s := by
  obtain ⟨t, rfl⟩ := DtIn.intEq ra
  obtain rfl : b = .ref p := rb
  cases hz with
  | di e1 =>
    obtain ⟨⟨kvs, g1, g2⟩, _⟩ := R.objs _ _ e1
    exact wpAny_in_of (intKind_is _ _ i t) (R.notSys (obj_ne e1)) g1.mapOf (by rw [look_some g2]; exact q _)
  | set e1 => exact wpAny_inSet_of (intKind_is _ _ i t) rfl (R.objs _ _ e1) (q _)
theorem notin_rule {i : Int} {p : Addr} {z : Bool} {a b : Value} (hz : InV H i p z) (R : Rel c H s.heap) (ra : VRep c s.heap a (.d (.int i))) (rb : VRep c s.heap b (.r p)) {Q : Value → Shared → Prop}
    (q : ∀ n, Q (.bool (!z)) { s with toks := n }) : wpAny (model c.prog c.w) A (compareOp .NotIn a b) Q NoE s := by
  obtain ⟨t, rfl⟩ := DtIn.intEq ra
  obtain rfl : b = .ref p := rb
  cases hz with
  | di e1 =>
    obtain ⟨⟨kvs, g1, g2⟩, _⟩ := R.objs _ _ e1
    exact wpAny_notIn_of (intKind_is _ _ i t) (R.notSys (obj_ne e1)) g1.mapOf (by rw [look_some g2]; exact q _)
  | set e1 => exact wpAny_notInSet_of (intKind_is _ _ i t) rfl (R.objs _ _ e1) (q _)
theorem cmp_rule {op : CmpOp} {x y : AV} {z : Bool} {a b : Value} (g : GoodA k A) (hz : CmpV H op x y z) (R : Rel c H s.heap) (ra : VRep c s.heap a x) (rb : VRep c s.heap b y) {Q : Value → Shared → Prop}
    (q : ∀ n, Q (.bool z) { s with toks := n }) : wpAny (model c.prog c.w) A (compareOp op a b) Q NoE s := by
  cases hz with
  | eq h =>
    cases eqV_val h R ra rb with
    | mk r1 r2 c1 c2 d e => exact PySem.SeqAt.compareEq_reads r1 r2 c1 c2 (eq_room g (Nat.le_trans (Nat.min_le_left ..) d)) (by rw [e]; exact q s.toks)
  | ne h =>
    cases eqV_val h R ra rb with
    | mk r1 r2 c1 c2 d e => exact PySem.SeqAt.compareNe_reads r1 r2 c1 c2 (eq_room g (Nat.le_trans (Nat.min_le_left ..) d)) (by rw [e]; exact q s.toks)
  | lt => obtain ⟨u, rfl⟩ := DtIn.intEq ra; obtain ⟨v, rfl⟩ := DtIn.intEq rb; exact PyProof.Rows.lt_int (q s.toks)
  | le => obtain ⟨u, rfl⟩ := DtIn.intEq ra; obtain ⟨v, rfl⟩ := DtIn.intEq rb; exact PyProof.Rows.le_int (q s.toks)
  | gt => obtain ⟨u, rfl⟩ := DtIn.intEq ra; obtain ⟨v, rfl⟩ := DtIn.intEq rb; exact PyProof.Rows.gt_int (q s.toks)
  | ge => obtain ⟨u, rfl⟩ := DtIn.intEq ra; obtain ⟨v, rfl⟩ := DtIn.intEq rb; exact PyProof.Rows.ge_int (q s.toks)
  | is h =>
    obtain rfl := DtIn.noneEq rb
    cases isNone_rule h ra with
    | t e => subst e; exact PyProof.Rows.is_none_none (q s.toks)
    | f e => exact PyProof.Rows.is_none_ne e (q s.toks)
  | isn h =>
    obtain rfl := DtIn.noneEq rb
    cases isNone_rule h ra with
    | t e => subst e; exact PyProof.Rows.isnot_none_none (q s.toks)
    | f e => exact PyProof.Rows.isnot_none_ne e (q s.toks)
  | in_ h => exact in_rule h R ra rb q
  | nin h => exact notin_rule h R ra rb q
where eq_room {k : Nat} {A : Around} {n : Nat} (g : GoodA k A) (d : n ≤ 2001) : A.units + n < cLine := Nat.lt_of_le_of_lt (Nat.add_le_add_left d _) g.eq
theorem snd_cmp {op : CmpOp} {e1 e2 : Expr} {i1 i2 : IE} {pos : Pos} (h1 : SndO c C env e1 i1 k) (h2 : SndO c C env e2 i2 k) (hm : behindInMarks op e2 = false) :
    SndO c C env (.Compare e1 [op] [e2] pos) (.cmp op i1 i2) k := by
  intro A f H Q s g t h
  refine wpAny_Compare1 (seq2 h1 h2 g t (h : We C i1 f H fun x H1 => We C i2 f H1 (cmpQ op x Q)) fun a b x y H2 s2 hp ra rb t2 => ?_) hm
  cases hp with
  | mk hz hq => exact cmp_rule g hz t2.rel ra rb fun n => EP.tok1 (v := .d (.bool _)) hq (DtIn.bool _) t2 n
inductive TP (c : Cx) (env : Env) (f : Frm) (H : AH) (s : Shared) (P1 P2 : AH → Prop) : Bool → Shared → Prop
  | t {H' : AH} {s' : Shared} (q : P1 H') (t : St c env f H' s') (k : Ext (ownL env) H s H' s') : TP c env f H s P1 P2 true s'
  | f {H' : AH} {s' : Shared} (q : P2 H') (t : St c env f H' s') (k : Ext (ownL env) H s H' s') : TP c env f H s P1 P2 false s'
theorem TP.from {P1 P2 : AH → Prop} {H1 : AH} {s1 : Shared} {x : Bool} {s' : Shared} (k : Ext (ownL env) H s H1 s1) (e : TP c env f H1 s1 P1 P2 x s') : TP c env f H s P1 P2 x s' := by
  cases e with
  | t q t y => exact .t q t (k.trans y)
  | f q t y => exact .f q t (k.trans y)
abbrev SndT (c : Cx) (C : Oracle) (env : Env) (e : Expr) (ir : IE) (k : Nat) : Prop :=
  ∀ (A : Around) (f : Frm) (H : AH) (P1 P2 : AH → Prop) (s : Shared), GoodA k A → St c env f H s → We C ir f H (ifQ P1 P2) → wpAny (model c.prog c.w) A (isTrue e env (eval e env)) (TP c env f H s P1 P2) NoE s
theorem SndT.go {e : Expr} {i : IE} (h1 : SndT c C env e i k) (g : GoodA k A) (t : St c env f H s) {P1 P2 : AH → Prop} (h : We C i f H (ifQ P1 P2)) {R : Bool → Shared → Prop} (ft : ∀ H1 s1, P1 H1 → St c env f H1 s1 → Ext (ownL env) H s H1 s1 → R true s1) (ff : ∀ H1 s1, P2 H1 → St c env f H1 s1 → Ext (ownL env) H s H1 s1 → R false s1) :
    wpAny (model c.prog c.w) A (isTrue e env (eval e env)) R NoE s := wpAny_mono (h1 A f H _ _ s g t h) (fun a s1 e => by
  cases e with
  | t q t k => exact ft _ _ q t k
  | f q t k => exact ff _ _ q t k) fun _ _ z => z
theorem wpFromT {m : Sem Bool} {P1 P2 : AH → Prop} {H1 : AH} {s1 s2 : Shared} (k : Ext (ownL env) H s H1 s1) (h : wpAny (model c.prog c.w) A m (TP c env f H1 s1 P1 P2) NoE s2) : wpAny (model c.prog c.w) A m (TP c env f H s P1 P2) NoE s2 :=
  wpAny_mono h (fun _ _ p => p.from k) fun _ _ z => z
theorem ifQ_t {P1 P2 : AH → Prop} {H : AH} (h : ifQ P1 P2 (.d (.bool true)) H) : P1 H := by cases h with | t h => exact h
theorem ifQ_f {P1 P2 : AH → Prop} {H : AH} (h : ifQ P1 P2 (.d (.bool false)) H) : P2 H := by cases h with | f h => exact h
theorem ifQ_TP {P1 P2 : AH → Prop} {b : Bool} {H1 : AH} {s1 : Shared} (h : ifQ P1 P2 (.d (.bool b)) H1) (t : St c env f H1 s1) (k : Ext (ownL env) H s H1 s1) : TP c env f H s P1 P2 b s1 := by
  cases h with
  | t h => exact .t h t k
  | f h => exact .f h t k
theorem sndT_plain {e : Expr} {ir : IE} (he : ∀ whole, isTrue e env whole = (do let v ← whole; standAt e.pos; holding [v] (truthy v))) (h : SndO c C env e ir k) : SndT c C env e ir k := by
  intro A f H P1 P2 s g t hw
  rw [he]
  refine wpAny_bind (h.go g t hw fun a x H1 s1 hx rx t1 k1 => wpAny_bind (wpAny_standAt (wpAny_holding ?_)))
  cases hx with
  | t q => obtain rfl := DtIn.boolEq rx; exact wpAny_truthy_bool (.t q t1 k1)
  | f q => obtain rfl := DtIn.boolEq rx; exact wpAny_truthy_bool (.f q t1 k1)
theorem sndT_cmp {op : CmpOp} {e1 e2 : Expr} {i1 i2 : IE} {pos : Pos} (h1 : SndO c C env e1 i1 k) (h2 : SndO c C env e2 i2 k) (hm : behindInMarks op e2 = false) :
    SndT c C env (.Compare e1 [op] [e2] pos) (.cmp op i1 i2) k := by
  intro A f H P1 P2 s g t h
  refine wpAny_isTrue_Compare1 ?_ hm
  refine h1.go g t (h : We C i1 f H fun x H1 => We C i2 f H1 (cmpQ op x (ifQ P1 P2))) fun a x H1 s1 hx rx t1 k1 => h2.go g t1 hx fun b y H2 s2 hy ry t2 k2 => ?_
  cases hy with
  | mk hz hq => exact cmp_rule g hz t2.rel (rx.keep k2.tup) ry fun n => wpAny_truthy_bool (ifQ_TP hq (t2.tok _) ((k1.trans k2).tok _))
theorem notQ_if {P1 P2 : AH → Prop} : notQ (ifQ P1 P2) = ifQ P2 P1 := by
  funext v H
  refine propext ⟨fun h => ?_, fun h => ?_⟩
  · cases h with
    | @mk b _ q => cases b with
      | true => exact .t (ifQ_f q)
      | false => exact .f (ifQ_t q)
  · cases h with
    | t h => exact .mk (.f h)
    | f h => exact .mk (.t h)
theorem sndT_not {e : Expr} {i : IE} {pos : Pos} (h : SndT c C env e i k) : SndT c C env (.UnaryOp .Not e pos) (.notE i) k := by
  intro A f H P1 P2 s g t hw
  have hw : We C i f H (notQ (ifQ P1 P2)) := hw
  rw [notQ_if] at hw
  exact wpAny_isTrue_Not (h.go g t hw (fun H1 s1 q t1 k1 => .f q t1 k1) fun H1 s1 q t1 k1 => .t q t1 k1)
theorem snd_not {e : Expr} {i : IE} {pos : Pos} (h : SndO c C env e i k) : SndO c C env (.UnaryOp .Not e pos) (.notE i) k := by
  intro A f H Q s g t hw
  refine wpAny_UnaryOp (h.go g t (hw : We C i f H (notQ Q)) fun a x H1 s1 hx rx t1 k1 => ?_)
  cases hx with
  | mk q =>
    obtain rfl := DtIn.boolEq rx
    exact wpAny_bind (wpAny_truthy_bool (wpAny_pure ((EP.now (v := .d (.bool _)) q (DtIn.bool _) t1).from k1)))
theorem snd_ite {e1 e2 e3 : Expr} {i1 i2 i3 : IE} {pos : Pos} (h1 : SndT c C env e1 i1 k) (h2 : SndO c C env e2 i2 k) (h3 : SndO c C env e3 i3 k) : SndO c C env (.IfExp e1 e2 e3 pos) (.ite i1 i2 i3) k := fun A f H Q s g t hw =>
  wpAny_IfExp (h1.go g t (hw : We C i1 f H (ifQ (fun H1 => We C i2 f H1 Q) fun H1 => We C i3 f H1 Q)) (fun H1 s1 q t1 k1 => wpFrom k1 (h2 A f H1 _ s1 g t1 q)) fun H1 s1 q t1 k1 => wpFrom k1 (h3 A f H1 _ s1 g t1 q))
theorem sndT_ite {e1 e2 e3 : Expr} {i1 i2 i3 : IE} {pos : Pos} (h1 : SndT c C env e1 i1 k) (h2 : SndT c C env e2 i2 k) (h3 : SndT c C env e3 i3 k) : SndT c C env (.IfExp e1 e2 e3 pos) (.ite i1 i2 i3) k := by
  intro A f H P1 P2 s g t hw
  show wpAny _ A (do if ← isTrue e1 env (eval e1 env) then isTrue e2 env (eval e2 env) else isTrue e3 env (eval e3 env)) _ _ s
  exact wpAny_bind (h1.go g t (hw : We C i1 f H (ifQ (fun H1 => We C i2 f H1 (ifQ P1 P2)) fun H1 => We C i3 f H1 (ifQ P1 P2))) (fun H1 s1 q t1 k1 => wpFromT k1 (h2 A f H1 _ _ s1 g t1 q)) fun H1 s1 q t1 k1 => wpFromT k1 (h3 A f H1 _ _ s1 g t1 q))
end
end
section
open PySem PySem.W PyProof.Rows
set_option backward.match.sparseCases true
theorem TupKeep.tupKey {prog : Program} {w : World} {K : Type} [DecidableEq K] {knd : KeyKind prog w K} {h h' : Heap} (t : TupKeep h h') {ks : List K} {a : Addr} (x : IsTupleKey knd h ks a) : IsTupleKey knd h' ks a := by
  obtain ⟨o, items, n, ho, hc, hd, r⟩ := x
  exact ⟨o, items, n, t a o items n ho hc hd, hc, hd, r⟩
theorem ORep.move {c : Cx} {h h' : Heap} {b : Addr} {o : AO} (k : ∀ x, h.get? b = some x → h'.get? b = some x) (t : TupKeep h h') (r : ORep c h b o) : ORep c h' b o := by
  cases o with
  | lst ds => obtain ⟨vs, n, h1, h2, h3⟩ := r; exact ⟨vs, n, k _ h1, h2.keep t, h3⟩
  | di es => obtain ⟨⟨kvs, ⟨o, es', ep, ho, q⟩, h2⟩, h3⟩ := r; exact ⟨⟨kvs, ⟨o, es', ep, k _ ho, q⟩, h2.keep t⟩, h3⟩
  | ds es => obtain ⟨⟨kvs, ⟨o, es', ep, ho, q⟩, h2⟩, h3⟩ := r; exact ⟨⟨kvs, ⟨o, es', ep, k _ ho, q⟩, h2.keep t⟩, h3⟩
  | dt es =>
    obtain ⟨⟨xs, ⟨o, es', ep, ho, q1, q2, q3, q4, q5⟩, h2⟩, h3⟩ := r
    exact ⟨⟨xs, ⟨o, es', ep, k _ ho, q1, q2, q3, fun x hx => TupKeep.tupKey t (q4 x hx), q5⟩, h2.keep t⟩, h3⟩
  | set is => obtain ⟨o, es, ep, t', ho, q⟩ := r; exact ⟨o, es, ep, t', k _ ho, q⟩
  | inst cl dx => exact k _ r
  | ns fs => obtain ⟨es, n, h1, h2⟩ := r; exact ⟨es, n, k _ h1, h2.keep t⟩
theorem ORep.some {c : Cx} {h : Heap} {b : Addr} {o : AO} (r : ORep c h b o) : ∃ x, h.get? b = some x ∧ ∀ items n, x.cls = .type "tuple" → x.data ≠ .seq items n := by
  cases o with
  | lst ds => obtain ⟨vs, n, h1, h2⟩ := r; exact ⟨_, h1, fun _ _ q => by injection q with q; exact absurd q (by decide)⟩
  | di es => obtain ⟨⟨kvs, ⟨o, es', ep, ho, q, hd, _⟩, h2⟩, h3⟩ := r; exact ⟨_, ho, fun _ _ _ e => by rw [hd] at e; cases e⟩
  | ds es => obtain ⟨⟨kvs, ⟨o, es', ep, ho, q, hd, _⟩, h2⟩, h3⟩ := r; exact ⟨_, ho, fun _ _ _ e => by rw [hd] at e; cases e⟩
  | dt es => obtain ⟨⟨xs, ⟨o, es', ep, ho, q, hd, _⟩, h2⟩, h3⟩ := r; exact ⟨_, ho, fun _ _ _ e => by rw [hd] at e; cases e⟩
  | set is => obtain ⟨o, es, ep, t', ho, q, hd, _⟩ := r; exact ⟨_, ho, fun _ _ _ e => by rw [hd] at e; cases e⟩
  | inst cl dx => exact ⟨_, r, fun _ _ _ e => nomatch e⟩
  | ns fs => obtain ⟨es, n, h1, h2⟩ := r; exact ⟨_, h1, fun _ _ _ e => nomatch e⟩
theorem Rel.live {c : Cx} {H : AH} {h : Heap} (R : Rel c H h) {a : Addr} (ha : H a ≠ none) : ∃ o, h.get? a = some o := by
  cases q : H a with
  | none => exact absurd q ha
  | some o => obtain ⟨x, hx, _⟩ := (R.objs a o q).some; exact ⟨x, hx⟩
theorem Rel.next {c : Cx} {H : AH} {h : Heap} (R : Rel c H h) : H h.objs.size = none := by
  cases q : H h.objs.size with
  | none => rfl
  | some o =>
    obtain ⟨x, hx⟩ := R.live (a := h.objs.size) (by rw [q]; exact fun z => nomatch z)
    exact absurd (Heap.lt_size hx) (Nat.lt_irrefl _)
theorem VarAt.move {c : Cx} {env : Env} {m : Str → Option Value} {h h' : Heap} {x : Str} {v : AV} (t : TupKeep h h') (k : ∀ a, env.cells.lookup x = some a → ∀ y, h.IsCell a y → h'.IsCell a y) (r : VarAt c env m h x v) : VarAt c env m h' x v := by
  rcases r with ⟨hk, y, hy, r⟩ | ⟨hk, a, y, ha, hc, r⟩
  · exact .inl ⟨hk, y, hy, r.keep t⟩
  · exact .inr ⟨hk, a, y, ha, k a ha _ hc, r.keep t⟩
section
variable {c : Cx} {C : Oracle} {env : Env} {k : Nat} {A : Around} {f : Frm} {H : AH} {s : Shared} {Q : Post}
theorem St.cellNe (t : St c env f H s) {x : Str} {a : Addr} (e : env.cells.lookup x = some a) : a ≠ env.locals := by
  obtain ⟨v, o, ho, hd⟩ := t.fr.cells x a e
  obtain ⟨m, ⟨o', es, ep, ho', hd', _⟩, _⟩ := t.fr.vars
  intro q
  rw [q, ho'] at ho
  cases ho
  rw [hd] at hd'; cases hd'
theorem St.growL {h' : Heap} {n : Nat} (t : St c env f H s) (hk : ∀ b o, s.heap.get? b = some o → b ≠ env.locals → h'.get? b = some o) (hL : ∀ m, s.heap.Ns env.locals m → h'.Ns env.locals m) :
    St c env f H { s with heap := h', toks := n } ∧ Ext (ownL env) H s H { s with heap := h', toks := n } := by
  obtain ⟨m, hn, hm⟩ := t.fr.vars
  have tk : TupKeep s.heap h' := fun b o i j e hc hd => by
    refine hk b o e fun q => ?_
    obtain ⟨o', es, ep, ho', hd', _⟩ := hn
    rw [q, ho'] at e; cases e; rw [hd] at hd'; cases hd'
  refine ⟨⟨⟨fun b o e => hk b o (t.rel.keep b o e) fun q => ?_, t.rel.fresh, fun a o e => (t.rel.objs a o e).move (fun x hx => hk a x hx fun q => ?_) tk⟩, ⟨t.fr.ok, ⟨m, hL m hn, fun x v e => (hm x v e).move tk fun a ha y q => ?_⟩, fun x a e => ?_, t.fr.off, t.fr.coff⟩⟩, ⟨fun b o e _ hn => hk b o e hn, fun b hb => ?_, fun b hb => .inl hb, tk, rfl, rfl⟩⟩
  · subst q; exact absurd (Heap.lt_size e) (Nat.not_lt.mpr t.fr.ok.above)
  · rw [q, t.fr.off] at e; cases e
  · obtain ⟨o, ho, hd⟩ := q; exact ⟨o, hk _ o ho (t.cellNe ha), hd⟩
  · obtain ⟨v, o, ho, hd⟩ := t.fr.cells x a e
    exact ⟨v, o, hk _ o ho (t.cellNe e), hd⟩
  · obtain ⟨o, ho⟩ := Option.isSome_iff_exists.mp hb
    show (h'.get? b).isSome = true
    by_cases q : b = env.locals
    · obtain ⟨o', es, ep, ho', _⟩ := hL m hn
      rw [q, ho']; rfl
    · rw [hk b o ho q]; rfl
theorem St.grow {h' : Heap} {n : Nat} (t : St c env f H s) (hk : ∀ b o, s.heap.get? b = some o → h'.get? b = some o) :
    St c env f H { s with heap := h', toks := n } ∧ Ext (ownL env) H s H { s with heap := h', toks := n } := t.growL (fun b o e _ => hk b o e) fun m q => q.keeps hk
theorem St.newL {h' : Heap} {n : Nat} {a : Addr} {o : AO} (t : St c env f H s) (hk : ∀ b o, s.heap.get? b = some o → b ≠ env.locals → h'.get? b = some o) (hLm : ∀ m, s.heap.Ns env.locals m → h'.Ns env.locals m) (ha : s.heap.get? a = none) (hsz : s.heap.objs.size ≤ a) (r : ORep c h' a o) :
    St c env f (H.set a o) { s with heap := h', toks := n } ∧ Ext (ownL env) H s (H.set a o) { s with heap := h', toks := n } := by
  obtain ⟨t1, k1⟩ := t.growL (n := n) hk hLm
  obtain ⟨m, hn, hm⟩ := t.fr.vars
  have hL : env.locals < s.heap.objs.size := hn.lt
  refine ⟨⟨⟨t1.rel.keep, fun b hb => ?_, fun b o' e => ?_⟩, ⟨t1.fr.ok, t1.fr.vars, t1.fr.cells, ?_, fun x b e => ?_⟩⟩, ⟨k1.keep, k1.live, fun b hb => ?_, k1.tup, rfl, rfl⟩⟩
  · by_cases e : b = a
    · subst e; exact Nat.le_trans (Nat.le_of_lt (Nat.lt_of_le_of_lt t.fr.ok.above hL)) hsz
    · simp only [AH.set, if_neg e] at hb; exact t.rel.fresh b hb
  · by_cases e' : b = a
    · subst e'; simp only [AH.set, if_true, Option.some.injEq] at e; subst e; exact r
    · simp only [AH.set, if_neg e'] at e; exact t1.rel.objs b o' e
  · have : env.locals ≠ a := Nat.ne_of_lt (Nat.lt_of_lt_of_le hL hsz)
    simp only [AH.set, if_neg this]; exact t.fr.off
  · obtain ⟨v, q⟩ := t.fr.cells x b e
    have : b ≠ a := Nat.ne_of_lt (Nat.lt_of_lt_of_le q.lt hsz)
    simp only [AH.set, if_neg this]; exact t.fr.coff x b e
  · by_cases e : b = a
    · subst e; exact .inr ha
    · simp only [AH.set, if_neg e] at hb; exact .inl hb
theorem St.new {h' : Heap} {n : Nat} {a : Addr} {o : AO} (t : St c env f H s) (hk : ∀ b o, s.heap.get? b = some o → h'.get? b = some o) (ha : s.heap.get? a = none) (hsz : s.heap.objs.size ≤ a) (r : ORep c h' a o) :
    St c env f (H.set a o) { s with heap := h', toks := n } ∧ Ext (ownL env) H s (H.set a o) { s with heap := h', toks := n } := t.newL (fun b o e _ => hk b o e) (fun m q => q.keeps hk) ha hsz r
theorem St.upd {h' : Heap} {n : Nat} {a : Addr} {o : AO} (t : St c env f H s) (ha : H a ≠ none) (hs : Heap.SameBut a s.heap h') (r : TupKeep s.heap h' → ORep c h' a o) :
    St c env f (H.set a o) { s with heap := h', toks := n } ∧ Ext (ownL env) H s (H.set a o) { s with heap := h', toks := n } := by
  have hk : ∀ b o, s.heap.get? b = some o → b ≠ a → h'.get? b = some o := fun b o e q => (hs.2 b q).trans e
  have tk : TupKeep s.heap h' := fun b x i m e hc hd => by
    refine hk b x e fun q => ?_
    subst q
    cases z : H b with
    | none => exact ha z
    | some o' =>
      obtain ⟨y, hy, hn⟩ := (t.rel.objs b o' z).some
      rw [e] at hy; cases hy
      exact hn i m hc hd
  have hr := r tk
  obtain ⟨y, hy, _⟩ := hr.some
  refine ⟨⟨⟨fun b x e => hk b x (t.rel.keep b x e) fun q => ?_, fun b hb => ?_, fun b o' e => ?_⟩, ⟨t.fr.ok, ?_, fun x b e => ?_, ?_, fun x b e => ?_⟩⟩, ⟨fun b x e hn _ => hk b x e fun q => ha (q ▸ hn), fun b hb => ?_, fun b hb => ?_, tk, rfl, rfl⟩⟩
  · subst q; exact absurd (Heap.lt_size e) (Nat.not_lt.mpr (t.rel.fresh b ha))
  · by_cases e : b = a
    · subst e; exact t.rel.fresh b ha
    · simp only [AH.set, if_neg e] at hb; exact t.rel.fresh b hb
  · by_cases e' : b = a
    · subst e'; simp only [AH.set, if_true, Option.some.injEq] at e; subst e; exact hr
    · simp only [AH.set, if_neg e'] at e; exact (t.rel.objs b o' e).move (fun x e => hk b x e e') tk
  · obtain ⟨m, hn, hm⟩ := t.fr.vars
    refine ⟨m, hn.sameBut hs fun q => ha (q ▸ t.fr.off), fun x v e => (hm x v e).move tk fun b hb y q => ?_⟩
    exact q.sameBut hs fun z => ha (z ▸ t.fr.coff x b hb)
  · obtain ⟨v, q⟩ := t.fr.cells x b e
    exact ⟨v, q.sameBut hs fun z => ha (z ▸ t.fr.coff x b e)⟩
  · simp only [AH.set, if_neg (fun q => ha (q ▸ t.fr.off) : env.locals ≠ a)]; exact t.fr.off
  · simp only [AH.set, if_neg (fun q => ha (q ▸ t.fr.coff x b e) : b ≠ a)]; exact t.fr.coff x b e
  · by_cases e : b = a
    · subst e; show (h'.get? b).isSome = true; rw [hy]; rfl
    · obtain ⟨o', ho⟩ := Option.isSome_iff_exists.mp hb
      show (h'.get? b).isSome = true
      rw [hk b o' ho e]; rfl
  · by_cases e : b = a
    · subst e; exact .inl ha
    · simp only [AH.set, if_neg e] at hb; exact .inl hb
theorem push_keeps {h : Heap} (o : Obj) : ∀ b x, h.get? b = some x → (h.push o).get? b = some x := fun b x e => Heap.get?_push_of_some o e
theorem next_none (h : Heap) : h.get? h.objs.size = none := by
  cases q : h.get? h.objs.size with
  | none => rfl
  | some o => exact absurd (Heap.lt_size q) (Nat.lt_irrefl _)
theorem tuple_rule {vs : List Value} {ds : List Dt} (t : St c env f H s) (r : DtAll s.heap vs ds) (hsz : vs.length ≤ sizeLine) (q : Q (.d (.tup ds)) H) : wpAny (model c.prog c.w) A (newTuple vs) (EP c env f H s Q) NoE s := by
  obtain ⟨t1, k1⟩ := t.grow (n := s.toks) (push_keeps { cls := .type "tuple", data := .seq vs.toArray })
  exact wpAny_newTuple (.mk (v := .d (.tup ds)) q (.tup (TupO.new _ _) (r.keep k1.tup)) t1 k1) hsz
theorem list_new {vs : List Value} {ds : List Dt} {n : Nat} (t : St c env f H s) (r : DtAll s.heap vs ds) (hsz : ds.length ≤ 2 * lim) (q : newO H (.lst ds) Q) :
    EP c env f H s Q (.ref s.heap.objs.size) { s with heap := s.heap.push { cls := .type "list", data := .seq vs.toArray }, toks := n } := by
  obtain ⟨_, k1⟩ := t.grow (n := n) (push_keeps { cls := .type "list", data := .seq vs.toArray })
  obtain ⟨t2, k2⟩ := t.new (n := n) (o := .lst ds) (push_keeps { cls := .type "list", data := .seq vs.toArray }) (next_none _) (Nat.le_refl _) ⟨vs, 0, Heap.get?_push_size _ rfl, r.keep k1.tup, hsz⟩
  exact .mk (q _ t.rel.next) rfl t2 k2
theorem list_rule {vs : List Value} {ds : List Dt} (t : St c env f H s) (r : DtAll s.heap vs ds) (hsz : ds.length ≤ 2 * lim) (q : newO H (.lst ds) Q) : wpAny (model c.prog c.w) A (newList vs) (EP c env f H s Q) NoE s :=
  wpAny_newList (list_new t r hsz q) (by rw [r.length]; exact Nat.le_trans hsz (by decide))
inductive VAll (c : Cx) (h : Heap) : List Value → List AV → Prop
  | nil : VAll c h [] []
  | cons {x : Value} {v : AV} {xs : List Value} {vs : List AV} : VRep c h x v → VAll c h xs vs → VAll c h (x :: xs) (v :: vs)
theorem VAll.keep {h h' : Heap} (t : TupKeep h h') {xs : List Value} {vs : List AV} (r : VAll c h xs vs) : VAll c h' xs vs := by
  induction r with
  | nil => exact .nil
  | cons a _ ih => exact .cons (a.keep t) ih
theorem VAll.length {h : Heap} {xs : List Value} {vs : List AV} (r : VAll c h xs vs) : xs.length = vs.length := by
  induction r with
  | nil => rfl
  | cons a _ ih => simp [ih]
theorem VAll.dts {h : Heap} : ∀ {ds : List Dt} {xs : List Value}, VAll c h xs (ds.map .d) → DtAll h xs ds
  | [], _, r => by cases r; exact .nil
  | _ :: ds, _, r => by cases r with | cons a r => exact .cons a (VAll.dts (ds := ds) r)
inductive SndL (c : Cx) (C : Oracle) (env : Env) (k : Nat) : List Expr → List IE → Prop
  | nil : SndL c C env k [] []
  | cons {e : Expr} {i : IE} {es : List Expr} {is : List IE} : (∀ rest, starEach (e :: rest) env = (false, eval e env) :: starEach rest env) → SndO c C env e i k → SndL c C env k es is → SndL c C env k (e :: es) (i :: is)
theorem SndL.length {es : List Expr} {is : List IE} (l : SndL c C env k es is) : es.length = is.length := by
  induction l with
  | nil => rfl
  | cons _ _ _ ih => simp [ih]
inductive LP (c : Cx) (env : Env) (f : Frm) (H : AH) (s : Shared) (n : Nat) (Q : List AV → AH → Prop) (xs : List Value) (s' : Shared) : Prop
  | mk {vs : List AV} {H' : AH} (q : Q vs H') (r : VAll c s'.heap xs vs) (hl : xs.length = n) (t : St c env f H' s') (k : Ext (ownL env) H s H' s') : LP c env f H s n Q xs s'
theorem args_rule {es : List Expr} {is : List IE} {pos : Pos} (l : SndL c C env k es is) : ∀ {H : AH} {s : Shared} {Q : List AV → AH → Prop}, GoodA k A → St c env f H s → Wes C is f H Q →
    wpAny (model c.prog c.w) A (spliced (backTo pos (starEach es env))) (LP c env f H s is.length Q) NoE s := by
  induction l with
  | nil => intro H s Q g t h; exact args_nil (.mk h .nil rfl t (Ext.refl _ _ _))
  | @cons e i es is hs he _ ih =>
    intro H s Q g t h
    refine args_cons ?_ (hs _)
    refine he.go g t (h : We C i f H fun v H1 => Wes C is f H1 fun vs H2 => Q (v :: vs) H2) fun x v H1 s1 hx rx t1 k1 => ?_
    refine wpAny_mono (ih g t1 hx) (fun xs s2 e => ?_) fun _ _ z => z
    cases e with
    | mk q rxs hl t2 k2 => exact .mk q (.cons (rx.keep k2.tup) rxs) (congrArg Nat.succ hl) t2 (k1.trans k2)
theorem SndL.go {es : List Expr} {is : List IE} {pos : Pos} (l : SndL c C env k es is) (g : GoodA k A) (t : St c env f H s) {P : List AV → AH → Prop} (h : Wes C is f H P) {R : List Value → Shared → Prop} (fin : ∀ xs vs H1 s1, P vs H1 → VAll c s1.heap xs vs → xs.length = is.length → St c env f H1 s1 → Ext (ownL env) H s H1 s1 → R xs s1) :
    wpAny (model c.prog c.w) A (spliced (backTo pos (starEach es env))) R NoE s := wpAny_mono (args_rule l g t h) (fun a s1 e => by cases e with | mk q r hl t k => exact fin _ _ _ _ q r hl t k) fun _ _ z => z
theorem snd_tup {es : List Expr} {is : List IE} {kk : Nat} {pos : Pos} (l : SndL c C env k es is) (hl : is.length ≤ 1000) : SndO c C env (.Tuple es kk pos) (.tup is) k := by
  intro A f H Q s g t h
  refine PyProof.Rows.Tuple_ (l.go g t (h : Wes C is f H (tupQ Q)) fun xs vs H1 s1 hq rv hn t1 k1 => ?_)
  cases hq with
  | mk e q => subst e; exact wpFrom k1 (tuple_rule t1 rv.dts (by rw [hn]; exact Nat.le_trans hl (by decide)) q)
theorem snd_lst {es : List Expr} {is : List IE} {pos : Pos} (l : SndL c C env k es is) (hl : is.length ≤ 1000) : SndO c C env (.List es pos) (.lst is) k := by
  intro A f H Q s g t h
  refine PyProof.Rows.List_ (l.go g t (h : Wes C is f H (lstQ Q)) fun xs vs H1 s1 hq rv hn t1 k1 => ?_)
  cases hq with
  | mk e q => subst e; exact wpFrom k1 (list_rule t1 rv.dts (by rw [← rv.dts.length, hn]; exact Nat.le_trans hl (by decide)) q)
theorem snd_dct {pos : Pos} : SndO c C env (.Dict [] [] pos) .dct k := by
  intro A f H Q s g t h
  have hD : ∀ {K : Type} [DecidableEq K] (knd : KeyKind c.prog c.w K), (s.heap.push { cls := .type "dict", data := .dict #[] }).DictOf knd s.heap.objs.size [] := fun knd =>
    ⟨_, #[], 0, Heap.get?_push_size _ rfl, ⟨rfl, rfl, rfl⟩, rfl, fun e he => (nomatch he.val), .nil, List.nodup_nil⟩
  have fin : ∀ {o : AO}, newO H o Q → ORep c (s.heap.push { cls := .type "dict", data := .dict #[] }) s.heap.objs.size o → EP c env f H s Q (.ref s.heap.objs.size) { s with heap := s.heap.push { cls := .type "dict", data := .dict #[] } } := fun h r => by
    obtain ⟨t2, k2⟩ := t.new (n := s.toks) (push_keeps { cls := .type "dict", data := .dict #[] }) (next_none _) (Nat.le_refl _) r
    exact .mk (h _ t.rel.next) rfl t2 k2
  refine wpAny_Dict_empty ?_
  rcases (h : newO H (.di []) Q ∨ newO H (.ds []) Q ∨ newO H (.dt []) Q) with h | h | h
  · exact fin h ⟨⟨[], hD _, .nil⟩, Nat.zero_le _⟩
  · exact fin h ⟨⟨[], hD _, .nil⟩, Nat.zero_le _⟩
  · exact fin h ⟨⟨[], ⟨_, #[], 0, Heap.get?_push_size _ rfl, ⟨rfl, rfl, rfl⟩, rfl, rfl, fun _ hx => (nomatch hx), List.nodup_nil⟩, .nil⟩, Nat.zero_le _⟩
noncomputable def andN : IE → List IE → IE
  | x, [] => x
  | x, y :: r => .andE x (andN y r)
noncomputable def orN : IE → List IE → IE
  | x, [] => x
  | x, y :: r => .orE x (orN y r)
theorem snd_andN {pos : Pos} {e : Expr} {i : IE} {es : List Expr} {is : List IE} (h0 : SndO c C env e i k) (l : SndL c C env k es is) :
    ∀ {A : Around} {f : Frm} {H : AH} {Q : Post} {s : Shared}, GoodA k A → St c env f H s → We C (andN i is) f H Q → wpAny (model c.prog c.w) A (boolOp pos .And (eval e env :: evalEach es env)) (EP c env f H s Q) NoE s := by
  induction l generalizing e i with
  | nil => intro A f H Q s g t h; exact h0 A f H Q s g t h
  | @cons e' i' es is _ he _ ih =>
    intro A f H Q s g t h
    show wpAny _ A (do
      let v ← eval e env
      standAt pos
      let t ← holding [v] (truthy v)
      match BoolOp.And, t with
      | .And, false | .Or, true => pure v
      | _, _ => boolOp pos .And (eval e' env :: evalEach es env)) _ _ s
    refine wpAny_bind (h0.go g t (h : We C i f H (ifQ (fun H1 => We C (andN i' is) f H1 Q) (Q (.d (.bool false))))) fun x v H1 s1 hx rx t1 k1 => wpAny_bind (wpAny_standAt (wpAny_bind (wpAny_holding ?_))))
    cases hx with
    | t hx =>
      obtain rfl := DtIn.boolEq rx
      exact wpAny_truthy_bool (wpFrom k1 (ih he g t1 hx))
    | f hx =>
      obtain rfl := DtIn.boolEq rx
      exact wpAny_truthy_bool (wpAny_pure ((EP.now (v := .d (.bool false)) hx rx t1).from k1))
theorem snd_orN {pos : Pos} {e : Expr} {i : IE} {es : List Expr} {is : List IE} (h0 : SndO c C env e i k) (l : SndL c C env k es is) :
    ∀ {A : Around} {f : Frm} {H : AH} {Q : Post} {s : Shared}, GoodA k A → St c env f H s → We C (orN i is) f H Q → wpAny (model c.prog c.w) A (boolOp pos .Or (eval e env :: evalEach es env)) (EP c env f H s Q) NoE s := by
  induction l generalizing e i with
  | nil => intro A f H Q s g t h; exact h0 A f H Q s g t h
  | @cons e' i' es is _ he _ ih =>
    intro A f H Q s g t h
    show wpAny _ A (do
      let v ← eval e env
      standAt pos
      let t ← holding [v] (truthy v)
      match BoolOp.Or, t with
      | .And, false | .Or, true => pure v
      | _, _ => boolOp pos .Or (eval e' env :: evalEach es env)) _ _ s
    refine wpAny_bind (h0.go g t (h : We C i f H (ifQ (Q (.d (.bool true))) (fun H1 => We C (orN i' is) f H1 Q))) fun x v H1 s1 hx rx t1 k1 => wpAny_bind (wpAny_standAt (wpAny_bind (wpAny_holding ?_))))
    cases hx with
    | f hx =>
      obtain rfl := DtIn.boolEq rx
      exact wpAny_truthy_bool (wpFrom k1 (ih he g t1 hx))
    | t hx =>
      obtain rfl := DtIn.boolEq rx
      exact wpAny_truthy_bool (wpAny_pure ((EP.now (v := .d (.bool true)) hx rx t1).from k1))
theorem snd_And {pos : Pos} {e : Expr} {i : IE} {es : List Expr} {is : List IE} (h0 : SndO c C env e i k) (l : SndL c C env k es is) : SndO c C env (.BoolOp .And (e :: es) pos) (andN i is) k :=
  fun A f H Q s g t h => snd_andN h0 l g t h
theorem snd_Or {pos : Pos} {e : Expr} {i : IE} {es : List Expr} {is : List IE} (h0 : SndO c C env e i k) (l : SndL c C env k es is) : SndO c C env (.BoolOp .Or (e :: es) pos) (orN i is) k :=
  fun A f H Q s g t h => snd_orN h0 l g t h
inductive SndTL (c : Cx) (C : Oracle) (env : Env) (k : Nat) : List Expr → List IE → Prop
  | nil : SndTL c C env k [] []
  | cons {e : Expr} {i : IE} {es : List Expr} {is : List IE} : SndT c C env e i k → SndTL c C env k es is → SndTL c C env k (e :: es) (i :: is)
theorem allTrue_and {e : Expr} {i : IE} {es : List Expr} {is : List IE} (h0 : SndT c C env e i k) (l : SndTL c C env k es is) :
    ∀ {A : Around} {f : Frm} {H : AH} {P1 P2 : AH → Prop} {s : Shared}, GoodA k A → St c env f H s → We C (andN i is) f H (ifQ P1 P2) → wpAny (model c.prog c.w) A (allTrue .And (e :: es) env) (TP c env f H s P1 P2) NoE s := by
  induction l generalizing e i with
  | nil =>
    intro A f H P1 P2 s g t h
    show wpAny _ A (do match BoolOp.And, ← isTrue e env (eval e env) with
      | .And, false => pure false
      | .Or, true => pure true
      | _, _ => pure true) _ _ s
    exact wpAny_bind (h0.go g t h (fun H1 s1 q t1 k1 => wpAny_pure (.t q t1 k1)) fun H1 s1 q t1 k1 => wpAny_pure (.f q t1 k1))
  | @cons e' i' es is he _ ih =>
    intro A f H P1 P2 s g t h
    show wpAny _ A (do match BoolOp.And, ← isTrue e env (eval e env) with
      | .And, false => pure false
      | .Or, true => pure true
      | _, _ => allTrue .And (e' :: es) env) _ _ s
    exact wpAny_bind (h0.go g t (h : We C i f H (ifQ (fun H1 => We C (andN i' is) f H1 (ifQ P1 P2)) (ifQ P1 P2 (.d (.bool false))))) (fun H1 s1 q t1 k1 => wpFromT k1 (ih he g t1 q)) fun H1 s1 q t1 k1 => wpAny_pure (.f (ifQ_f q) t1 k1))
theorem allTrue_or {e : Expr} {i : IE} {es : List Expr} {is : List IE} (h0 : SndT c C env e i k) (l : SndTL c C env k es is) :
    ∀ {A : Around} {f : Frm} {H : AH} {P1 P2 : AH → Prop} {s : Shared}, GoodA k A → St c env f H s → We C (orN i is) f H (ifQ P1 P2) → wpAny (model c.prog c.w) A (allTrue .Or (e :: es) env) (TP c env f H s P1 P2) NoE s := by
  induction l generalizing e i with
  | nil =>
    intro A f H P1 P2 s g t h
    show wpAny _ A (do match BoolOp.Or, ← isTrue e env (eval e env) with
      | .And, false => pure false
      | .Or, true => pure true
      | _, _ => pure false) _ _ s
    exact wpAny_bind (h0.go g t h (fun H1 s1 q t1 k1 => wpAny_pure (.t q t1 k1)) fun H1 s1 q t1 k1 => wpAny_pure (.f q t1 k1))
  | @cons e' i' es is he _ ih =>
    intro A f H P1 P2 s g t h
    show wpAny _ A (do match BoolOp.Or, ← isTrue e env (eval e env) with
      | .And, false => pure false
      | .Or, true => pure true
      | _, _ => allTrue .Or (e' :: es) env) _ _ s
    exact wpAny_bind (h0.go g t (h : We C i f H (ifQ (ifQ P1 P2 (.d (.bool true))) (fun H1 => We C (orN i' is) f H1 (ifQ P1 P2)))) (fun H1 s1 q t1 k1 => wpAny_pure (.t (ifQ_t q) t1 k1)) fun H1 s1 q t1 k1 => wpFromT k1 (ih he g t1 q))
theorem sndT_And {pos : Pos} {e : Expr} {i : IE} {es : List Expr} {is : List IE} (h0 : SndT c C env e i k) (l : SndTL c C env k es is) : SndT c C env (.BoolOp .And (e :: es) pos) (andN i is) k :=
  fun A f H P1 P2 s g t h => allTrue_and h0 l g t h
theorem sndT_Or {pos : Pos} {e : Expr} {i : IE} {es : List Expr} {is : List IE} (h0 : SndT c C env e i k) (l : SndTL c C env k es is) : SndT c C env (.BoolOp .Or (e :: es) pos) (orN i is) k :=
  fun A f H P1 P2 s g t h => allTrue_or h0 l g t h
theorem sndT_chn {o1 o2 : CmpOp} {e1 e2 e3 : Expr} {i1 i2 i3 : IE} {pos : Pos} (h1 : SndO c C env e1 i1 k) (h2 : SndO c C env e2 i2 k) (h3 : SndO c C env e3 i3 k)
    (hm : markedEach [o1, o2] [e2, e3] (evalEach [e2, e3] env) = [eval e2 env, eval e3 env]) : SndT c C env (.Compare e1 [o1, o2] [e2, e3] pos) (.chn i1 o1 i2 o2 i3) k := by
  intro A f H P1 P2 s g t h
  show wpAny _ A (do testChain pos (← eval e1 env) [o1, o2] (markedEach [o1, o2] [e2, e3] (evalEach [e2, e3] env))) _ _ s
  rw [hm]
  refine wpAny_bind (h1.go g t (h : We C i1 f H fun x H1 => We C i2 f H1 (chnQ o1 x (fun y H2 => We C i3 f H2 (cmpQ o2 y (ifQ P1 P2))) (ifQ P1 P2 (.d (.bool false))))) fun a x H1 s1 hx rx t1 k1 => ?_)
  show wpAny _ A (do
    let rv ← holding [a] (eval e2 env)
    standAt pos
    let c ← holding [a, rv] (compareOp o1 a rv)
    release [a, rv] [c]
    if ← holding [c, rv] (truthy c) then (do
      let rv' ← holding [rv] (eval e3 env)
      standAt pos
      let c ← operate [rv, rv'] (compareOp o2 rv rv')
      holding [c] (truthy c)) else pure false) _ _ s1
  refine wpAny_bind (wpAny_holding (h2.go g t1 hx fun b y H2 s2 hy ry t2 k2 => wpAny_bind (wpAny_standAt (wpAny_bind (wpAny_holding ?_)))))
  cases hy with
  | f hz hq => exact cmp_rule g hz t2.rel (rx.keep k2.tup) ry fun n => wpAny_bind (wpAny_release (wpAny_bind (wpAny_holding (wpAny_truthy_bool (wpAny_pure (.f (ifQ_f hq) (t2.tok n) ((k1.trans k2).tok n)))))))
  | t hz hq =>
    refine cmp_rule g hz t2.rel (rx.keep k2.tup) ry fun n => wpAny_bind (wpAny_release (wpAny_bind (wpAny_holding (wpAny_truthy_bool ?_))))
    refine wpAny_bind (wpAny_holding (h3.go g (t2.tok n) hq fun d y' H3 s3 hy' ry' t3 k3 => wpAny_bind (wpAny_standAt (wpAny_bind (wpAny_operating ?_)))))
    cases hy' with
    | mk hz' hq' => exact cmp_rule g hz' t3.rel (VRep.keep k3.tup ry) ry' fun n' => wpAny_holding (wpAny_truthy_bool (ifQ_TP hq' (t3.tok _) ((((k1.trans k2).tok n).trans k3).tok _)))
end
end
section
open PySem PySem.W PyProof.Rows
theorem upd_list {h : Heap} {a : Addr} {its : Array Value} {n : Nat} (f : Array Value → Array Value) (e : h.get? a = some (listOf its n)) : ∃ n', (h.update a (Obj.mapSeq f)).get? a = some (listOf (f its) n') :=
  ⟨_, Heap.get?_update_self (Obj.mapSeq f) e rfl⟩
section
variable {c : Cx} {C : Oracle} {env : Env} {k : Nat} {A : Around} {f : Frm} {H : AH} {s : Shared} {Q : Post}
theorem Rel.list (R : Rel c H s.heap) {a : Addr} {ds : List Dt} (e : H a = some (.lst ds)) : ∃ vs n, s.heap.get? a = some (listOf (List.toArray vs) n) ∧ DtAll s.heap vs ds ∧ ds.length ≤ 2 * lim := R.objs _ _ e
theorem isList_of {h : Heap} {a : Addr} {its : Array Value} {n : Nat} (e : h.get? a = some (listOf its n)) : h.IsList a its := ⟨_, e, rfl, n, rfl⟩
theorem seqIndex_nat {n m : Nat} (h : n < m) : seqIndex? (n : Int) m = some n := by
  simp [seqIndex?, h, Int.not_lt.mpr (Int.natCast_nonneg n)]
theorem fit63 {n : Nat} (h : n ≤ 2 * lim) : (n : Int) < 2 ^ 63 := by
  have : 2 * lim = 2000000 := rfl
  omega
theorem sub_rule {value slice : Expr} {x y : AV} {z : Dt} {a b : Value} (hs : ∀ o i, subscripted slice false o i = operate [o, i] (getItem o i)) (hz : SubV H x y z) (R : Rel c H s.heap) (ra : VRep c s.heap a x) (rb : VRep c s.heap b y)
    {Q : Value → Shared → Prop} (q : ∀ v n, DtIn s.heap v z → Q v { s with toks := n }) : wpAny (model c.prog c.w) A (subscriptTail value slice a b) Q NoE s := by
  cases hz with
  | tup h1 h =>
    obtain ⟨u, rfl⟩ := DtIn.intEq rb
    obtain ⟨t, vs, rfl, ht, hv⟩ := DtIn.tupEq ra
    obtain ⟨v, h1, h2⟩ := hv.get h
    have hlt := (List.getElem?_eq_some_iff.mp h1).1
    exact item_tupleT ht.is (by omega) (by omega) (seqIndex_nat hlt) h1 (q v s.toks h2) (hs _ _)
  | lst e h =>
    obtain rfl : a = .ref _ := ra
    obtain ⟨u, rfl⟩ := DtIn.intEq rb
    obtain ⟨vs, n, g1, g2, g3⟩ := R.list e
    obtain ⟨v, h1, h2⟩ := g2.get h
    have hlt := (List.getElem?_eq_some_iff.mp h1).1
    have hl := g2.length
    have hlim : 2 * lim = 2000000 := rfl
    exact tail_any (isList_of g1).typeIs slot_list_getitem.lookup (wpAny_getItem_list (isList_of g1) (Int.natCast_nonneg _) (by omega) (by simpa using h1) (q v s.toks h2)) (hs _ _)
  | di e h =>
    obtain rfl : a = .ref _ := ra
    obtain ⟨u, rfl⟩ := DtIn.intEq rb
    obtain ⟨⟨kvs, g1, g2⟩, _⟩ := R.objs _ _ e
    rcases lookK_kv g2 _ with ⟨_, w2⟩ | ⟨v, d, w1, w2, w3⟩
    · rw [w2] at h; cases h
    · rw [w2] at h; cases h
      exact tail_any g1.mapOf.typeIs slot_dict_getitem.lookup (wpAny_getItem_of (intKind_is _ _ _ u) g1.mapOf w1 (q v _ w3)) (hs _ _)
theorem snd_sub {e1 e2 : Expr} {i1 i2 : IE} {pos : Pos} (h1 : SndO c C env e1 i1 k) (h2 : SndO c C env e2 i2 k) (hs : ∀ o i, subscripted e2 false o i = operate [o, i] (getItem o i)) :
    SndO c C env (.Subscript e1 e2 pos) (.sub i1 i2) k := by
  intro A f H Q s g t h
  refine Subscript_ (seq2 h1 h2 g t (h : We C i1 f H fun x H1 => We C i2 f H1 (subQ x Q)) fun a b x y H2 s2 hp ra rb t2 => ?_)
  cases hp with
  | mk hz hq => exact sub_rule hs hz t2.rel ra rb fun v n r => EP.tok1 (v := .d _) hq r t2 n
inductive LstR (h : Heap) (ds : List Dt) (a : Value) : Prop
  | mk {p : Addr} {vs : List Value} (e : a = .ref p) (l : h.IsList p (List.toArray vs)) (r : DtAll h vs ds) (hl : ds.length ≤ 2 * lim) : LstR h ds a
theorem ints_dts {h : Heap} {vs : List Value} {is : List Int} (r : IntsAre vs is) : DtAll h vs (is.map .int) := by
  induction r with
  | nil => exact .nil
  | cons i t r ih => exact .cons (.int _ _) ih
theorem lst_read {x : AV} {ds : List Dt} {a : Value} (hz : LstV H x ds) (t : St c env f H s) (ra : VRep c s.heap a x) : LstR s.heap ds a := by
  cases hz with
  | lst e =>
    obtain ⟨vs, n, g1, g2, g3⟩ := t.rel.list e
    exact .mk ra (isList_of g1) g2 g3
  | fro =>
    obtain ⟨p, vs, rfl, ⟨o, ho, r⟩, g2, g3⟩ := ra
    exact .mk rfl ⟨o, t.rel.keep _ _ ho, r⟩ (ints_dts g2) (by rw [List.length_map]; exact Nat.le_trans g3 (by decide))
theorem slice_new {vs : List Value} {ds : List Dt} {os : Obj} (t : St c env f H s) (r : DtAll s.heap vs ds) (hsz : ds.length ≤ 2 * lim) (q : newO H (.lst ds) Q) :
    EP c env f H s Q (.ref (s.heap.push os).objs.size) { s with heap := (s.heap.push os).push { cls := .type "list", data := .seq vs.toArray } } := by
  obtain ⟨t1, k1⟩ := t.grow (n := s.toks) (push_keeps os)
  exact (list_new (n := s.toks) t1 (r.keep k1.tup) hsz q).from k1
theorem snd_slcHi {e1 e2 : Expr} {i1 i2 : IE} {p pos : Pos} (h1 : SndO c C env e1 i1 k) (h2 : SndO c C env e2 i2 k) :
    SndO c C env (.Subscript e1 (.Slice none (some e2) none p) pos) (.slcH i1 i2) k := by
  intro A f H Q s g t h
  refine Subscript_ (h1.go g t (h : We C i1 f H fun x H1 => We C i2 f H1 (slcHQ x Q)) fun a x H1 s1 hx rx t1 k1 => wpAny_Slice (wpAny_pure ?_))
  rw [evalPart_some, evalPart_none]
  refine h2.go g t1 hx fun b y H2 s2 hy ry t2 k2 => wpAny_pure ?_
  cases hy with
  | mk hd hq =>
    obtain ⟨u, rfl⟩ := DtIn.intEq ry
    cases lst_read hd t2 (rx.keep k2.tup) with
    | mk e g1 g2 g3 =>
      subst e
      refine tail_any ((g1.push _).typeIs) slot_list_getitem.lookup (wpAny_getItem_list_slice (g1.push _) (Heap.IsSliceOf.new ..) .none (.int _ _) .none (by simp) ?_ ?_) rfl
      · rw [slicePick_upto']
        exact (slice_new t2 (g2.take _) (Nat.le_trans (by rw [List.length_take]; exact Nat.min_le_right ..) g3) hq).from (k1.trans k2)
      · rw [List.size_toArray, g2.length]; exact Nat.le_trans g3 (by decide)
theorem snd_slcLo {e1 e2 : Expr} {i1 i2 : IE} {p pos : Pos} (h1 : SndO c C env e1 i1 k) (h2 : SndO c C env e2 i2 k) :
    SndO c C env (.Subscript e1 (.Slice (some e2) none none p) pos) (.slcL i1 i2) k := by
  intro A f H Q s g t h
  refine Subscript_ (h1.go g t (h : We C i1 f H fun x H1 => We C i2 f H1 (slcLQ x Q)) fun a x H1 s1 hx rx t1 k1 => wpAny_Slice ?_)
  rw [evalPart_some, evalPart_none]
  refine h2.go g t1 hx fun b y H2 s2 hy ry t2 k2 => wpAny_pure (wpAny_pure ?_)
  cases hy with
  | mk hd hq =>
    obtain ⟨u, rfl⟩ := DtIn.intEq ry
    cases lst_read hd t2 (rx.keep k2.tup) with
    | mk e g1 g2 g3 =>
      subst e
      refine tail_any ((g1.push _).typeIs) slot_list_getitem.lookup (wpAny_getItem_list_slice (g1.push _) (Heap.IsSliceOf.new ..) (.int _ _) .none .none (by simp) ?_ ?_) rfl
      · rw [slicePick_from']
        exact (slice_new t2 (g2.drop _) (Nat.le_trans (by rw [List.length_drop]; exact Nat.sub_le ..) g3) hq).from (k1.trans k2)
      · rw [List.size_toArray, g2.length]; exact Nat.le_trans g3 (by decide)
structure AttOK (c : Cx) (x : Str) : Prop where
  get : ∀ cl, plainGet c.K (c.cadr cl) x = true
  has : ∀ cl, hasDictIn c.K (c.cadr cl) = true
  find : ∀ cl, ∃ a, findIn c.K (.ref (c.cadr cl)) x = some a ∧ noGet c.K a = true
  set : ∀ cl, findIn c.K (.ref (c.cadr cl)) "__setattr__" = some (some (.builtin "object.__setattr__"))
  over : ∀ cl, plainOver c.K (c.cadr cl) = true
  taker : ∀ cl, takerIn c.K (c.cadr cl) x = some none
theorem getL_hit {e : DictEntry} {r : List DictEntry} {x : Str} (h : e.key.isStr x = true) : getL x (e :: r) = some (some e.val) := by
  unfold getL; rw [List.find?_cons, h]
theorem getL_miss {e : DictEntry} {r : List DictEntry} {x : Str} (h : e.key.isStr x = false) (h2 : e.refKey = false) : getL x (e :: r) = getL x r := by
  unfold getL; rw [List.find?_cons, h, List.any_cons, h2, Bool.false_or]
inductive GetR (c : Cx) (h : Heap) (x : Str) (es : List DictEntry) (fs : List (Str × AV)) : Prop
  | none (h1 : lookF x fs = none) (h2 : getL x es = some none) : GetR c h x es fs
  | some {v : AV} {y : Value} (h1 : lookF x fs = some v) (h2 : getL x es = some (some y)) (r : VRep c h y v) : GetR c h x es fs
theorem getL_ns {h : Heap} {es : List DictEntry} {fs : List (Str × AV)} (r : NsAll c h es fs) (x : Str) : GetR c h x es fs := by
  induction r with
  | nil => exact .none rfl rfl
  | @cons e r x' v t fs hk hv _ ih =>
    by_cases q : x' = x
    · exact .some (v := v) (if_pos q) (getL_hit (by rw [hk]; exact beq_iff_eq.mpr q)) hv
    · have e1 : lookF x ((x', v) :: fs) = lookF x fs := if_neg q
      have e2 : getL x (e :: r) = getL x r := getL_miss (by rw [hk]; exact beq_eq_false_iff_ne.mpr q) (by unfold DictEntry.refKey; rw [hk])
      cases ih with
      | none a b => exact .none (e1.trans a) (e2.trans b)
      | some a b d => exact .some (e1.trans a) (e2.trans b) d
theorem VRep.handed {h : Heap} {y : Value} {v : AV} (r : VRep c h y v) : handedIn y = true := by
  cases v with
  | d d => cases r <;> rfl
  | r a => obtain rfl : y = .ref a := r; rfl
  | f is => obtain ⟨a, vs, rfl, _⟩ := r; rfl
theorem St.Fr (t : St c env f H s) : ∃ m, Fr c.hB env.locals s.heap m := let ⟨m, hn, _⟩ := t.fr.vars; ⟨m, hn, t.rel.keep, t.fr.ok.above⟩
theorem att_rule {x : Str} {v z : AV} {o : Value} (K : AttOK c x) (hz : attV H x v z) (t : St c env f H s) (ro : VRep c s.heap o v) {Q : Value → Shared → Prop} (q : ∀ y n, VRep c s.heap y z → Q y { s with toks := n }) :
    wpAny (model c.prog c.w) A (getAttr o x true) Q NoE s := by
  cases hz with
  | mk e1 e2 e3 =>
    obtain rfl : o = .ref _ := ro
    obtain ⟨es, n, g1, g2⟩ := t.rel.objs _ _ e2
    cases getL_ns g2 x with
    | none w1 _ => rw [w1] at e3; cases e3
    | some w1 w2 w3 =>
      rw [w1] at e3; cases e3
      obtain ⟨m, F⟩ := t.Fr
      obtain ⟨a', ha, hn⟩ := K.find _
      exact get_own F c.X (I := ⟨t.rel.objs _ _ e1, rfl, rfl, g1⟩) (K.get _) (K.has _) ha hn w2 w3.handed (q _ _ w3)
theorem snd_att {e : Expr} {i : IE} {x : Str} {pos : Pos} (K : AttOK c x) (h1 : SndO c C env e i k)
    (he : eval (.Attribute e x pos) env = (do
      let o ← eval e env
      standAt pos.atName
      let r ← holding [o] (getAttr o x true)
      letTemporaryGo e o r
      pure r)) : SndO c C env (.Attribute e x pos) (.att i x) k := by
  intro A f H Q s g t h
  refine Attribute_any_ (h1.go g t (h : We C i f H (attQ x Q)) fun a v H1 s1 hv rx t1 k1 => ?_) he
  cases hv with
  | mk hz hq => exact att_rule K hz t1 rx fun y n r => (EP.tok1 hq r t1 n).from k1
structure BiOK (c : Cx) (env : Env) (x : Str) (v : Value) : Prop where
  kind : env.kindOf x = some .globalImplicit
  none : nsIn c.K mainGlobals x = some none
  boot : bootBuiltins x = some v
  ne : x ≠ "__name__"
  dbg : (x == ("__debug__" : Str)) = false
theorem bi_name {x : Str} {v : Value} {pos : Pos} (B : BiOK c env x v) (t : St c env f H s) {Q : Value → Shared → Prop} (q : Q v s) : wpAny (model c.prog c.w) A (eval (.Name x pos) env) Q NoE s :=
  PySem.Calls.Name_function_global t.fr.ok.kind B.kind (PySem.Calls.loadGlobal_builtin (env := env) (by rw [t.fr.ok.glob]; exact c.T.g.keeps t.rel.keep) (mg_none_of c.X c.T.g B.none) (by rw [t.fr.ok.bui]; exact c.T.b.keeps t.rel.keep) ((c.T.builtins x B.ne).trans B.boot) q) B.dbg
theorem SndL.plain {es : List Expr} {is : List IE} {pos : Pos} (l : SndL c C env k es is) : (backTo pos (starEach es env)).any (·.1) = false := by
  induction l with
  | nil => rfl
  | cons hs _ _ ih =>
    rw [hs]
    show (false || (backTo pos (starEach _ env)).any (·.1)) = false
    rw [ih]; rfl
theorem bi_call1 {x : Str} {v : Value} {e : Expr} {i : IE} {p pos : Pos} (B : BiOK c env x v) (hv : (∃ id, v = .builtin id) ∨ ∃ T, v = .type T) (h1 : SndO c C env e i k) (he : ∀ rest, starEach (e :: rest) env = (false, eval e env) :: starEach rest env) (g : GoodA k A) (t : St c env f H s)
    {P : AV → AH → Prop} (h : We C i f H P) (fin : ∀ a y H1 s1, P y H1 → VRep c s1.heap a y → St c env f H1 s1 → wpAny (model c.prog c.w) A (call v [a]) (EP c env f H1 s1 Q) NoE s1) :
    wpAny (model c.prog c.w) A (eval (.Call (.Name x p) [e] [] pos) env) (EP c env f H s Q) NoE s := by
  refine Call_ (bi_name B t ?_) rfl
  have body : wpAny (model c.prog c.w) A (spliced (backTo pos (starEach [e] env))) (fun vs s1 => wpAny (model c.prog c.w) A (call v vs) (EP c env f H s Q) NoE s1) NoE s := by
    exact args_cons (h1.go g t h fun a y H1 s1 hy ry t1 k1 => args_nil (wpFrom k1 (fin a y H1 s1 hy ry t1))) (he _)
  rcases hv with ⟨id, rfl⟩ | ⟨T, rfl⟩
  · exact callWith_builtin1 body (he _) rfl
  · rw [he] at body ⊢
    exact PySem.callWith_type rfl (PySem.Calls.evalArgs_plain body)
theorem snd_len {x : Str} {e : Expr} {i : IE} {p pos : Pos} (B : BiOK c env x (.builtin "len")) (h1 : SndO c C env e i k) (he : ∀ rest, starEach (e :: rest) env = (false, eval e env) :: starEach rest env) :
    SndO c C env (.Call (.Name x p) [e] [] pos) (.len i) k := by
  intro A f H Q s g t h
  refine bi_call1 B (.inl ⟨_, rfl⟩) h1 he g t (h : We C i f H (lenQ Q)) fun a y H1 s1 hy ry t1 => ?_
  cases hy with
  | lst e1 hq =>
    obtain rfl : a = .ref _ := ry
    obtain ⟨vs, m, g1, g2, g3⟩ := t1.rel.list e1
    have hl := g2.length
    refine len_list (isList_of g1) (fit63 (by rw [List.size_toArray, hl]; exact g3)) ?_
    rw [List.size_toArray, hl]
    exact EP.tok1 (v := .d (.int _)) hq (DtIn.int _ _) t1 _
  | di e1 hq =>
    obtain rfl : a = .ref _ := ry
    obtain ⟨⟨kvs, g1, g2⟩, g3⟩ := t1.rel.objs _ _ e1
    have hl := g2.length
    refine call_len_dict (t1.rel.notSys (obj_ne e1)) g1 (fit63 (by rw [hl]; exact Nat.le_trans g3 (by decide))) ?_
    rw [hl]
    exact EP.tok1 (v := .d (.int _)) hq (DtIn.int _ _) t1 _
theorem snd_tupl {x : Str} {e : Expr} {i : IE} {p pos : Pos} (B : BiOK c env x (.type "tuple")) (h1 : SndO c C env e i k) (he : ∀ rest, starEach (e :: rest) env = (false, eval e env) :: starEach rest env) :
    SndO c C env (.Call (.Name x p) [e] [] pos) (.tupl i) k := by
  intro A f H Q s g t h
  refine bi_call1 B (.inr ⟨_, rfl⟩) h1 he g t (h : We C i f H (tuplQ Q)) fun a y H1 s1 hy ry t1 => ?_
  cases hy with
  | mk hd hq =>
    cases lst_read hd t1 ry with
    | @mk _ vs e g1 g2 g3 =>
      subst e
      refine call_tuple_list g1 (fun h' hk => ?_) (by rw [List.size_toArray, g2.length]; exact Nat.le_trans g3 (by decide))
      obtain ⟨t2, k2⟩ := t1.grow (h' := h'.push { cls := .type "tuple", data := .seq vs.toArray }) (n := s1.toks) fun b o e => Heap.get?_push_of_some _ (hk b o e)
      exact .mk (v := .d (.tup _)) hq (.tup (TupO.new _ _) (g2.keep k2.tup)) t2 k2
theorem list_made {vs : List Value} {ds : List Dt} {h' : Heap} {n m : Nat} (t : St c env f H s) (hk : ∀ b o, s.heap.get? b = some o → h'.get? b = some o) (ho : h'.get? s.heap.objs.size = some (listOf vs.toArray m)) (r : DtAll s.heap vs ds) (hsz : ds.length ≤ 2 * lim) (q : newO H (.lst ds) Q) :
    EP c env f H s Q (.ref s.heap.objs.size) { s with heap := h', toks := n } := by
  obtain ⟨_, k1⟩ := t.grow (n := n) hk
  obtain ⟨t2, k2⟩ := t.new (n := n) (o := .lst ds) hk (next_none _) (Nat.le_refl _) ⟨vs, m, ho, r.keep k1.tup, hsz⟩
  exact .mk (q _ t.rel.next) rfl t2 k2
theorem ints_of_at {vs : List Value} {kvs : List (Int × Value)} (hl : vs.length = kvs.length) (h : ∀ (j : Nat) (v : Value), vs[j]? = some v → ∃ (k : Int) (x : Value), kvs[j]? = some (k, x) ∧ (intKind c.prog c.w).is k v = true) {h0 : Heap} :
    DtAll h0 vs (kvs.map fun e => Dt.int e.1) := by
  induction vs generalizing kvs with
  | nil => cases kvs with
    | nil => exact .nil
    | cons _ _ => cases hl
  | cons v vs ih => cases kvs with
    | nil => cases hl
    | cons p kvs =>
      refine .cons ?_ (ih (by simpa using hl) fun j v e => by simpa using h (j + 1) v (by simpa using e))
      obtain ⟨k, x, e1, e2⟩ := h 0 v rfl
      simp at e1
      subst e1
      obtain ⟨t, rfl⟩ := Value.isInt_shape e2
      exact .int _ _
theorem snd_listc {x : Str} {e : Expr} {i : IE} {p pos : Pos} (B : BiOK c env x (.type "list")) (h1 : SndO c C env e i k) (he : ∀ rest, starEach (e :: rest) env = (false, eval e env) :: starEach rest env) :
    SndO c C env (.Call (.Name x p) [e] [] pos) (.listc i) k := by
  intro A f H Q s g t h
  refine bi_call1 B (.inr ⟨_, rfl⟩) h1 he g t (h : We C i f H (listcQ Q)) fun a y H1 s1 hy ry t1 => ?_
  cases hy with
  | lst e1 hq =>
    obtain rfl : a = .ref _ := ry
    obtain ⟨vs, m, g1, g2, g3⟩ := t1.rel.list e1
    exact call_list_seq _ (.inl rfl) g1 rfl rfl (fun h' c' hk hD => list_made (n := s1.toks) t1 hk hD g2 g3 hq) (by rw [List.size_toArray, g2.length]; exact Nat.le_trans g3 (by decide))
  | @di _ es _ e1 hq =>
    obtain rfl : a = .ref _ := ry
    obtain ⟨⟨kvs, g1, g2⟩, g3⟩ := t1.rel.objs _ _ e1
    obtain ⟨ep, hat⟩ := g1.dictAt
    have hl := g2.length
    refine kdl_call (kdl_dict (ep := ep) (t1.rel.notSys (obj_ne e1))) g.hd hat (by rw [hl]; exact Nat.le_trans g3 (by decide)) fun h' tk acc' c' hk hD hacc => ?_
    have e2 : (es.map fun e => Dt.int e.1) = kvs.map fun e => Dt.int e.1 := by
      have q : (es.map (·.1)).map Dt.int = (kvs.map (·.1)).map Dt.int := by rw [g2.keys]
      rw [List.map_map, List.map_map] at q
      exact q
    have r : DtAll s1.heap acc'.toList (kvs.map fun e => Dt.int e.1) := ints_of_at (c := c) (by rw [Array.length_toList]; exact hacc.1) fun j v e => hacc.2 j v (by rw [← Array.getElem?_toList]; exact e)
    exact list_made (vs := acc'.toList) (m := c') t1 hk (by rw [Array.toArray_toList]; exact hD) (e2 ▸ r) (by rw [List.length_map]; exact Nat.le_trans g3 (by decide)) hq
theorem snd_isbool {x T : Str} {e : Expr} {i : IE} {p p' pos : Pos} (B : BiOK c env x (.builtin "isinstance")) (B2 : BiOK c env T (.type "bool")) (h1 : SndO c C env e i k) (he : ∀ rest, starEach (e :: rest) env = (false, eval e env) :: starEach rest env) :
    SndO c C env (.Call (.Name x p) [e, .Name T p'] [] pos) (.isbool i) k := by
  intro A f H Q s g t h
  refine Call_ (bi_name B t ?_) rfl
  refine callWith_builtin1 (args_cons (h1.go g t (h : We C i f H (isbQ Q)) fun a y H1 s1 hy ry t1 k1 => args_cons (bi_name B2 t1 (args_nil ?_)) rfl) (he _)) (he _) rfl
  cases hy with
  | mk hq =>
    obtain rfl := DtIn.boolEq ry
    exact PySem.IsiPair.bool_bool ((EP.now (v := .d (.bool true)) hq (DtIn.bool true) t1).from k1)
theorem snd_newset {x : Str} {p pos : Pos} (B : BiOK c env x (.type "set")) : SndO c C env (.Call (.Name x p) [] [] pos) .newset k := by
  intro A f H Q s g t h
  refine Call_ (bi_name B t ?_) rfl
  refine PySem.callWith_type rfl (PyProof.Rows.evalArgs_none (call_set_0 fun led => ?_))
  have hS : (s.heap.push { cls := .type "set", dict := none, data := .set #[] 0 (.fresh 0 0 led) }).SetOf (intKind c.prog c.w) s.heap.objs.size (fun k => ([] : List Int).contains k) ([] : List Int).length :=
    (setObjOf_fresh (knd := intKind c.prog c.w) led).setOf (Heap.get?_push_size _ rfl) (by decide)
  obtain ⟨t2, k2⟩ := t.new (n := s.toks) (o := .set []) (push_keeps { cls := .type "set", dict := none, data := .set #[] 0 (.fresh 0 0 led) }) (next_none _) (Nat.le_refl _) hS
  exact .mk ((h : newO H (.set []) Q) _ t.rel.next) rfl t2 k2
end
inductive CP (c : Cx) (H : AH) (s : Shared) (Q : Post) : Result → Shared → Prop
  | mk {y : Value} {v : AV} {H' : AH} {s' : Shared} (q : Q v H') (r : VRep c s'.heap y v) (R : Rel c H' s'.heap) (x : Ext (fun _ => False) H s H' s') : CP c H s Q (.ok (.ret y)) s'
def Call (c : Cx) (k : Nat) : Oracle := fun g vs H Q => ∀ (A : Around) (s : Shared) (xs : List Value), GoodC k A → Rel c H s.heap → c.hB.objs.size ≤ s.heap.objs.size → VAll c s.heap xs vs →
  codeAny (model c.prog c.w) A (.call (.ref (c.fadr g)) ⟨xs, []⟩) (CP c H s Q) s
section
variable {c : Cx} {C : Oracle} {env : Env} {k : Nat} {A : Around} {f : Frm} {H : AH} {s : Shared} {Q : Post}
theorem St.after {H' : AH} {s' : Shared} (t : St c env f H s) (R : Rel c H' s'.heap) (x : Ext (fun _ => False) H s H' s') : St c env f H' s' := by
  have hk : ∀ b o, s.heap.get? b = some o → H b = none → s'.heap.get? b = some o := fun b o e n => x.keep b o e n fun z => z
  obtain ⟨m, hn, hm⟩ := t.fr.vars
  have hcell : ∀ y a, env.cells.lookup y = some a → ∀ v, s.heap.IsCell a v → s'.heap.IsCell a v := fun y a e v ⟨o, ho, hd⟩ => ⟨o, hk a o ho (t.fr.coff y a e), hd⟩
  refine ⟨R, ⟨t.fr.ok, ⟨m, ?_, fun y v e => (hm y v e).move x.tup fun a ha v q => hcell y a ha v q⟩, fun y a e => ?_, ?_, fun y a e => ?_⟩⟩
  · obtain ⟨o, es, ep, ho, r⟩ := hn
    exact ⟨o, es, ep, hk _ o ho t.fr.off, r⟩
  · obtain ⟨v, q⟩ := t.fr.cells y a e
    exact ⟨v, hcell y a e v q⟩
  · obtain ⟨o, es, ep, ho, r⟩ := hn
    exact x.out ho t.fr.off
  · obtain ⟨v, o, ho, _⟩ := t.fr.cells y a e
    exact x.out ho (t.fr.coff y a e)
theorem St.big (t : St c env f H s) : c.hB.objs.size ≤ s.heap.objs.size := by
  obtain ⟨m, hn, _⟩ := t.fr.vars
  exact Nat.le_trans t.fr.ok.above (Nat.le_of_lt hn.lt)
theorem call_rule {g : Fk} {vs : List AV} {xs : List Value} (gA : GoodA k A) (t : St c env f H s) (rv : VAll c s.heap xs vs) (h : Call c k g vs H Q) :
    wpAny (model c.prog c.w) A (call (.ref (c.fadr g)) xs) (EP c env f H s Q) NoE s := by
  refine wpAny_call (codeAny_mono (h A s xs gA.call t.rel t.big rv) fun r s' z => ?_)
  cases z with
  | mk q r R x => exact .mk q r (t.after R x) (x.weaken fun _ q => q.elim)
structure FnOK (c : Cx) (env : Env) (x : Str) : Prop where
  kind : env.kindOf x = some .globalImplicit
  at_ : nsIn c.K mainGlobals x = some (some (.ref (c.fadr (.fn x))))
  keep : keepIn c.K (.ref (c.fadr (.fn x))) = true
  dbg : (x == ("__debug__" : Str)) = false
theorem K_name {x : Str} {v : Value} {pos : Pos} (hk : env.kindOf x = some .globalImplicit) (e : nsIn c.K mainGlobals x = some (some v)) (hd : (x == ("__debug__" : Str)) = false) (t : St c env f H s) {Q : Value → Shared → Prop} (q : Q v s) :
    wpAny (model c.prog c.w) A (eval (.Name x pos) env) Q NoE s :=
  PySem.Calls.Name_function_global t.fr.ok.kind hk (PySem.Calls.loadGlobal_global (env := env) (by rw [t.fr.ok.glob]; exact c.T.g.keeps t.rel.keep) (mg_of c.X c.T.g e) q) hd
theorem callWith_rule {fv : Value} {first : List Value} {es : List Expr} {is : List IE} {pos : Pos} (hk : keepIn c.K fv = true) (l : SndL c C env k es is) (g : GoodA k A) (t : St c env f H s) {P : List AV → AH → Prop} (h : Wes C is f H P)
    (fin : ∀ xs vs H1 s1, P vs H1 → VAll c s1.heap xs vs → TupKeep s.heap s1.heap → St c env f H1 s1 → wpAny (model c.prog c.w) A (call fv (first ++ xs)) (EP c env f H1 s1 Q) NoE s1) :
    wpAny (model c.prog c.w) A (callWith pos fv first (backTo pos (starEach es env)) []) (EP c env f H s Q) NoE s := by
  have body : wpAny (model c.prog c.w) A (spliced (backTo pos (starEach es env))) (fun xs s1 => c.K.In s1.heap ∧ wpAny (model c.prog c.w) A (call fv (first ++ xs)) (EP c env f H s Q) NoE s1) NoE s :=
    l.go g t h fun xs vs H1 s1 hq rv hn t1 k1 => ⟨c.X.keeps t1.rel.keep, wpFrom k1 (fin xs vs H1 s1 hq rv k1.tup t1)⟩
  cases l with
  | nil =>
    have h' : P [] H := h
    exact callWith_K0 (c.X.keeps t.rel.keep) hk (by simpa using fin [] [] H s h' .nil (TupKeep.refl _) t)
  | cons hs he l => exact callWith_K c.X hk body (hs _) l.plain
theorem snd_fn {x : Str} {es : List Expr} {is : List IE} {p pos : Pos} (F : FnOK c env x) (l : SndL c (Call c k) env k es is) : SndO c (Call c k) env (.Call (.Name x p) es [] pos) (.fn x is) k := by
  intro A f H Q s g t h
  refine Call_ (K_name F.kind F.at_ F.dbg t ?_) rfl
  exact callWith_rule F.keep l g t (h : Wes (Call c k) is f H fun vs H1 => Call c k (.fn x) vs H1 Q) fun xs vs H1 s1 hq rv _ t1 => call_rule g t1 rv hq
structure MeOK (c : Cx) (cl : Cl) (m : Str) : Prop where
  get : plainGet c.K (c.cadr cl) m = true
  find : findIn c.K (.ref (c.cadr cl)) m = some (some (.ref (c.fadr (.me cl m))))
  fn : isFn c.K (.ref (c.fadr (.me cl m))) = true
  keep : keepIn c.K (.ref (c.fadr (.me cl m))) = true
theorem meth_call {o : Expr} {name : Str} {apos pos : Pos} {args : List Expr} {Q : Value → Shared → Prop} {M : Model} {E : Value → Shared → Prop}
    (hbase : attributeBase o name env (eval o env) = eval o env) (hform : methodCallForm (args.length + ([] : List Keyword).length) (backTo pos (starEach args env)) (backToKw pos (keywordEach [] env)) = true)
    (hline : (apos.endLine == pos.line) = true)
    (h : wpAny M A (eval o env) (fun ov s₁ => ∀ pl : Sem Bool, wpAny M A (getMethod ov name pl) (fun fx s₂ => wpAny M A (callWith pos fx.1 fx.2 (backTo pos (starEach args env)) []) Q E s₂) E s₁) E s) :
    wpAny M A (eval (.Call (.Attribute o name apos) args [] pos) env) Q E s := by
  rw [arm_eval_Call, hbase]
  refine wpAny_bind (wpAny_mono h (fun ov s₁ h₁ => wpAny_bind (wpAny_standAt ?_)) fun _ _ e => e)
  have hpos : methodCallPos true o env apos pos = pure pos := by unfold methodCallPos; simp [hline]
  unfold methodCall
  rw [hform]
  refine wpAny_bind (wpAny_holding (wpAny_mono (h₁ _) (fun fx s₂ h₂ => ?_) fun _ _ e => e))
  exact wpAny_bind (wpAny_of_eq hpos h₂)
theorem SndL.form {es : List Expr} {is : List IE} {pos : Pos} (l : SndL c C env k es is) (hl : is.length < 29) : methodCallForm (es.length + ([] : List Keyword).length) (backTo pos (starEach es env)) (backToKw pos (keywordEach [] env)) = true := by
  have h1 : (backTo pos (starEach es env)).all (fun x => !x.1) = true := by
    have := l.plain (pos := pos)
    rw [List.all_eq_true]
    rw [List.any_eq_false] at this
    intro x hx
    simpa using this x hx
  have h2 := l.length
  unfold methodCallForm
  rw [h1, h2]
  exact decide_eq_true (Nat.lt_succ_of_lt hl : is.length < 30)
theorem snd_met {cl : Cl} {m : Str} {o : Expr} {i : IE} {es : List Expr} {is : List IE} {apos pos : Pos} (M : MeOK c cl m) (h1 : SndO c (Call c k) env o i k) (l : SndL c (Call c k) env k es is) (hn : is.length < 29)
    (hbase : attributeBase o m env (eval o env) = eval o env) (hline : (apos.endLine == pos.line) = true) : SndO c (Call c k) env (.Call (.Attribute o m apos) es [] pos) (.met cl i m is) k := by
  intro A f H Q s g t h
  refine meth_call hbase (l.form hn) hline (h1.go g t (h : We (Call c k) i f H (metQ cl m fun a H1 => Wes (Call c k) is f H1 fun vs H2 => Call c k (.me cl m) (.r a :: vs) H2 Q)) fun a v H1 s1 hv rx t1 k1 pl => ?_)
  cases hv with
  | mk e1 e2 e3 hv =>
    obtain rfl : a = .ref _ := rx
    obtain ⟨ens, n, g1, g2⟩ := t1.rel.objs _ _ e2
    obtain ⟨mm, F⟩ := t1.Fr
    have hl : getL m ens = some none := by
      cases getL_ns g2 m with
      | none _ w => exact w
      | some w _ _ => rw [e3] at w; cases w
    refine method_inst F c.X (I := ⟨t1.rel.objs _ _ e1, rfl, rfl, g1⟩) M.get M.find M.fn hl (wpFrom k1 (callWith_rule (Q := Q) M.keep l g t1 hv fun xs vs H2 s2 hq rv tk t2 => ?_))
    exact call_rule g t2 (VAll.cons (v := .r _) rfl rv) hq
structure ClOK (c : Cx) (env : Env) (x : Str) (cl : Cl) : Prop where
  kind : env.kindOf x = some .globalImplicit
  at_ : nsIn c.K mainGlobals x = some (some (.ref (c.cadr cl)))
  dbg : (x == ("__debug__" : Str)) = false
  keep : keepIn c.K (.ref (c.cadr cl)) = true
  makes : makesIn c.K (c.cadr cl) = true
  init : findIn c.K (.ref (c.cadr cl)) "__init__" = some (some (.ref (c.fadr (.me cl "__init__"))))
  fn : typeIn c.K (.ref (c.fadr (.me cl "__init__"))) = some (.type "function")
theorem snd_new {cl : Cl} {x : Str} {es : List Expr} {is : List IE} {p pos : Pos} (F : ClOK c env x cl) (l : SndL c (Call c k) env k es is) : SndO c (Call c k) env (.Call (.Name x p) es [] pos) (.new cl is) k := by
  intro A f H Q s g t h
  refine Call_ (K_name F.kind F.at_ F.dbg t ?_) rfl
  refine callWith_rule (first := []) F.keep l g t (h : Wes (Call c k) is f H (newR (Call c k) cl Q)) fun xs vs H1 s1 hq rv _ t1 => ?_
  refine wpAny_call ?_
  have Xs := c.X.keeps t1.rel.keep
  obtain ⟨hh, gg, d, tt, os⟩ := s1
  have k1 : ∀ b o, hh.get? b = some o → (hh.push emptyDict).get? b = some o := push_keeps _
  have k2 : ∀ b o, (hh.push emptyDict).get? b = some o → ((hh.push emptyDict).push (instObj (c.cadr cl) hh.objs.size)).get? b = some o := push_keeps _
  have hne : hh.objs.size + 1 ≠ hh.objs.size := Nat.succ_ne_self _
  have hx : H1 (hh.objs.size + 1) = none := by
    cases q : H1 (hh.objs.size + 1) with
    | none => rfl
    | some o =>
      obtain ⟨y, hy⟩ := t1.rel.live (a := hh.objs.size + 1) (by rw [q]; exact fun z => nomatch z)
      exact absurd (Heap.lt_size hy) (Nat.not_lt.mpr (Nat.le_succ _))
  have hdx : H1 hh.objs.size = none := t1.rel.next
  refine make_core (makes_of Xs F.makes) (looks_findIn Xs F.init) (fun self => bind_fn Xs self F.fn) (.inl rfl) ?_
  have hcall := hq (hh.objs.size + 1) hh.objs.size ((H1.set (hh.objs.size + 1) (.inst cl hh.objs.size)).set hh.objs.size (.ns [])) hx hdx ((if_neg hne).trans (if_pos rfl)) (if_pos rfl) fun b o _ e =>
    (if_neg fun z => by rw [z, hdx] at e; cases e).trans ((if_neg fun z => by rw [z, hx] at e; cases e).trans e)
  have hi : ((hh.push emptyDict).push (instObj (c.cadr cl) hh.objs.size)).get? (hh.objs.size + 1) = some (instObj (c.cadr cl) hh.objs.size) := by
    have := Heap.get?_push_size (hh.push emptyDict) (o := instObj (c.cadr cl) hh.objs.size) rfl
    rwa [Heap.size_push] at this
  have hd : ((hh.push emptyDict).push (instObj (c.cadr cl) hh.objs.size)).get? hh.objs.size = some emptyDict := k2 _ _ (Heap.get?_push_size _ rfl)
  have tk : TupKeep hh ((hh.push emptyDict).push (instObj (c.cadr cl) hh.objs.size)) := fun b o _ _ e _ _ => k2 _ _ (k1 _ _ e)
  have R : Rel c ((H1.set (hh.objs.size + 1) (.inst cl hh.objs.size)).set hh.objs.size (.ns [])) ((hh.push emptyDict).push (instObj (c.cadr cl) hh.objs.size)) := by
    refine ⟨fun b o e => k2 _ _ (k1 _ _ (t1.rel.keep b o e)), fun b hb => ?_, fun b o e => ?_⟩
    · have hbig := t1.big
      by_cases e1 : b = hh.objs.size
      · subst e1; exact hbig
      · by_cases e2 : b = hh.objs.size + 1
        · subst e2; exact Nat.le_trans hbig (Nat.le_succ _)
        · simp only [AH.set, if_neg e1, if_neg e2] at hb; exact t1.rel.fresh b hb
    · by_cases e1 : b = hh.objs.size
      · subst e1
        simp only [AH.set, if_true, Option.some.injEq] at e; subst e
        exact ⟨[], 0, hd, .nil⟩
      · by_cases e2 : b = hh.objs.size + 1
        · subst e2
          simp only [AH.set, if_neg e1, if_true, Option.some.injEq] at e; subst e
          exact hi
        · simp only [AH.set, if_neg e1, if_neg e2] at e
          exact (t1.rel.objs b o e).move (fun x hx => k2 _ _ (k1 _ _ hx)) tk
  have hbig2 : c.hB.objs.size ≤ ((hh.push emptyDict).push (instObj (c.cadr cl) hh.objs.size)).objs.size := by
    rw [Heap.size_push, Heap.size_push]
    exact Nat.le_trans t1.big (Nat.le_trans (Nat.le_succ _) (Nat.le_succ _))
  have gC : GoodC k (A.under (.builtin "type.__call__" ⟨.ref (c.cadr cl) :: ([] ++ xs), []⟩)) := ⟨g.hd, by have := g.depth; show A.depth + 1 + 2 * k < 901; omega, by have := g.units; show A.units + 1 + 8 * k + 2098 < cLine; omega⟩
  refine codeAny_mono (hcall _ _ _ gC R hbig2 (VAll.cons (v := .r _) rfl (VAll.keep tk rv))) fun r s' z => ?_
  cases z with
  | @mk y v H' s' hv hr R' x =>
  cases hv with
  | mk hv =>
    obtain rfl := DtIn.noneEq hr
    have X : Ext (fun _ => False) H1 ⟨hh, gg, d, tt, os⟩ H' s' := by
      refine ⟨fun b o e n _ => ?_, fun b hb => ?_, fun b hb => ?_, tk.trans x.tup, x.gens, x.os⟩
      · have hb := Heap.lt_size e
        exact x.keep b o (k2 _ _ (k1 _ _ e)) ((if_neg (Nat.ne_of_lt hb)).trans ((if_neg (Nat.ne_of_lt (Nat.lt_succ_of_lt hb))).trans n)) fun z => z
      · obtain ⟨o, ho⟩ := Option.isSome_iff_exists.mp hb
        exact x.live b (by show (((hh.push emptyDict).push _).get? b).isSome = true; rw [k2 _ _ (k1 _ _ ho)]; rfl)
      · cases q : hh.get? b with
        | none => exact .inr rfl
        | some o =>
          have hb' := Heap.lt_size q
          rcases x.dom b hb with h | h
          · rw [show AH.set _ _ _ b = _ from (if_neg (Nat.ne_of_lt hb')).trans (if_neg (Nat.ne_of_lt (Nat.lt_succ_of_lt hb')))] at h; exact .inl h
          · rw [show Heap.get? _ b = _ from k2 _ _ (k1 _ _ q)] at h; cases h
    exact ⟨rfl, .mk hv rfl (t1.after R' X) (X.weaken fun _ q => q.elim)⟩
end
section
variable {c : Cx} {C : Oracle} {env : Env} {k : Nat} {A : Around} {f : Frm} {H : AH} {s : Shared} {Q : Post}
theorem append_rule {a : Addr} {x : Value} {d : Dt} {ds : List Dt} (t : St c env f H s) (e : H a = some (.lst ds)) (hl : ds.length < lim) (rx : DtIn s.heap x d) (q : Q (.d .none) (H.set a (.lst (ds ++ [d])))) :
    wpAny (model c.prog c.w) A (call (.builtin "list.append") [.ref a, x]) (EP c env f H s Q) NoE s := by
  obtain ⟨vs, n, g1, g2, g3⟩ := t.rel.list e
  refine append_at g1 (fun h' hs ho => ?_) (by rw [List.size_toArray, g2.length]; exact Nat.le_trans g3 (by decide))
  obtain ⟨t2, k2⟩ := t.upd (n := s.toks) (o := .lst (ds ++ [d])) (obj_ne e) hs fun tk => ⟨vs ++ [x], n + 1, by simpa using ho, (g2.keep tk).append (.one (rx.keep tk)), by rw [List.length_append]; exact Nat.le_trans hl (by decide)⟩
  exact .mk (v := .d .none) q .none t2 k2
theorem erase_last {α : Type} (vs : List α) (y : α) : (vs ++ [y]).toArray.eraseIdxIfInBounds ((vs ++ [y]).toArray.size - 1) = vs.toArray := by
  apply Array.toList_inj.mp
  simp [Array.eraseIdxIfInBounds, List.eraseIdx_append_of_length_le]
theorem DtAll.split {h : Heap} {d : Dt} : ∀ {ds : List Dt} {vs : List Value}, DtAll h vs (ds ++ [d]) → ∃ us y, vs = us ++ [y] ∧ DtAll h us ds ∧ DtIn h y d
  | [], _, r => by cases r with | cons r1 r2 => cases r2; exact ⟨[], _, rfl, .nil, r1⟩
  | _ :: ds, _, r => by
    cases r with
    | cons r1 r2 =>
      obtain ⟨us, y, e, h1, h2⟩ := DtAll.split (ds := ds) r2
      subst e
      exact ⟨_ :: us, y, rfl, .cons r1 h1, h2⟩
theorem pop_rule {a : Addr} {ds : List Dt} {d : Dt} (t : St c env f H s) (e : H a = some (.lst (ds ++ [d]))) (q : Q (.d d) (H.set a (.lst ds))) :
    wpAny (model c.prog c.w) A (call (.builtin "list.pop") [.ref a]) (EP c env f H s Q) NoE s := by
  obtain ⟨vs, n, g1, g2, g3⟩ := t.rel.list e
  obtain ⟨us, y, e1, ru, ry⟩ := g2.split
  subst e1
  have hsz : (us ++ [y]).toArray.size ≤ sizeLine := by rw [List.size_toArray, g2.length]; exact Nat.le_trans g3 (by decide)
  refine call_meets PySem.F.slot_list_pop ⟨_, g1, rfl⟩ PySem.F.entry_list_pop (PySem.F.args_list_pop_1 _) (PySem.MeetsSeq.list_pop_last a _ n y (by simp) hsz) ⟨g1, ?_⟩
  obtain ⟨n', hn'⟩ := upd_list (fun xs => xs.eraseIdxIfInBounds ((us ++ [y]).toArray.size - 1)) g1
  obtain ⟨t2, k2⟩ := t.upd (n := s.toks) (o := .lst ds) (obj_ne e) (Heap.SameBut.update s.heap a _) fun tk => ⟨us, n', by rw [← erase_last us y]; exact hn', ru.keep tk, Nat.le_trans (by rw [List.length_append]; exact Nat.le_add_right ..) g3⟩
  exact .mk (v := .d _) q (ry.keep k2.tup) t2 k2
theorem reverse_rule {a : Addr} {ds : List Dt} (t : St c env f H s) (e : H a = some (.lst ds)) (q : Q (.d .none) (H.set a (.lst ds.reverse))) :
    wpAny (model c.prog c.w) A (call (.builtin "list.reverse") [.ref a]) (EP c env f H s Q) NoE s := by
  obtain ⟨vs, n, g1, g2, g3⟩ := t.rel.list e
  have hsz : vs.toArray.size ≤ sizeLine := by rw [List.size_toArray, g2.length]; exact Nat.le_trans g3 (by decide)
  refine call_meets PySem.F.slot_list_reverse ⟨_, g1, rfl⟩ PySem.F.entry_list_reverse (PySem.F.args_list_reverse_1 _) (PySem.AutoSeq1.list_reverse_list_0 a _ n hsz) ⟨g1, ?_⟩
  obtain ⟨n', hn'⟩ := upd_list (fun xs => xs.reverse) g1
  obtain ⟨t2, k2⟩ := t.upd (n := s.toks) (o := .lst ds.reverse) (obj_ne e) (Heap.SameBut.update s.heap a _) fun tk => ⟨vs.reverse, n', by simpa using hn', (g2.keep tk).rev, by rw [List.length_reverse]; exact g3⟩
  exact .mk (v := .d .none) q .none t2 k2
theorem lookK_map {K V W : Type} [DecidableEq K] (g : V → W) (x : K) (es : List (K × V)) : lookK x (es.map fun e => (e.1, g e.2)) = (lookK x es).map g := by
  induction es with
  | nil => rfl
  | cons e r ih =>
    show (if e.1 = x then some (g e.2) else lookK x (r.map fun e => (e.1, g e.2))) = Option.map g (if e.1 = x then some e.2 else lookK x r)
    by_cases q : e.1 = x
    · rw [if_pos q, if_pos q]; rfl
    · rw [if_neg q, if_neg q]; exact ih
theorem get_found {K : Type} [DecidableEq K] {h : Heap} {kvs : List (K × Value)} {es : List (K × Int)} {kk : K} {y : Value} {v : Int} (g2 : KvAll h kvs (es.map fun e => (e.1, Dt.int e.2))) (ry : DtIn h y (.int v)) : DtIn h ((valueAt kvs kk).getD y) (.int ((lookK kk es).getD v)) := by
  rcases lookK_kv g2 kk with ⟨w1, w2⟩ | ⟨u, d, w1, w2, w3⟩
  · rw [lookK_map, Option.map_eq_none_iff] at w2
    rw [w1, w2]; exact ry
  · rw [lookK_map] at w2
    obtain ⟨z, w4, rfl⟩ := Option.map_eq_some_iff.mp w2
    rw [w1, w4]; exact w3
theorem getS_rule {a : Addr} {x y : Value} {kk : Str} {v : Int} {es : List (Str × Int)} (t : St c env f H s) (e : H a = some (.ds es)) (rx : DtIn s.heap x (.str kk)) (ry : DtIn s.heap y (.int v)) (q : Q (.d (.int ((lookK kk es).getD v))) H) :
    wpAny (model c.prog c.w) A (call (.builtin "dict.get") [.ref a, x, y]) (EP c env f H s Q) NoE s := by
  obtain ⟨⟨kvs, g1, g2⟩, _⟩ := t.rel.objs _ _ e
  obtain ⟨tx, rfl⟩ := rx.strEq
  have hm := g1.mapOf
  exact call_meetsIn PySem.F.slot_dict_get hm.typeIs PySem.F.entry_dict_get (PySem.F.args_dict_get_3 _ _ _) (meets_dict_get_default (strKind c.prog c.w) a (strKind_is _ _ kk tx) (t.rel.notSys (obj_ne e)) _) ⟨_, hm, EP.tok1 (v := .d (.int _)) q (get_found g2 ry) t _⟩
theorem keyT {h : Heap} {x : Value} {i j : Int} (rx : DtIn h x (.tup [.int i, .int j])) : ∃ p, x = .ref p ∧ IsTupleKey (intKind c.prog c.w) h [i, j] p := by
  obtain ⟨p, vs, rfl, ⟨n, ht⟩, hv⟩ := rx.tupEq
  cases hv with
  | cons r1 hv =>
    cases hv with
    | cons r2 hv =>
      cases hv
      obtain ⟨t1, rfl⟩ := r1.intEq
      obtain ⟨t2, rfl⟩ := r2.intEq
      exact ⟨p, rfl, _, _, n, ht, rfl, rfl, .cons (intKind_is _ _ i t1) (.cons (intKind_is _ _ j t2) .nil)⟩
theorem atKey_valueAt {K : Type} [DecidableEq K] (xs : List (K × Addr × Value)) (k : K) : (atKey xs k).map (·.2) = valueAt (xs.map fun x => (x.1, x.2.2)) k := (valueAt_kvsOf xs k).symm
theorem getT_rule {a : Addr} {x y : Value} {i j v : Int} {es : List (List Int × Int)} (g : GoodA k A) (t : St c env f H s) (e : H a = some (.dt es)) (rx : DtIn s.heap x (.tup [.int i, .int j])) (ry : DtIn s.heap y (.int v)) (q : Q (.d (.int ((lookK [i, j] es).getD v))) H) :
    wpAny (model c.prog c.w) A (call (.builtin "dict.get") [.ref a, x, y]) (EP c env f H s Q) NoE s := by
  obtain ⟨⟨xs, g1, g2⟩, _⟩ := t.rel.objs _ _ e
  obtain ⟨p, rfl, hk⟩ := keyT (c := c) rx
  have hg := g.units
  refine call_meetsIn PySem.F.slot_dict_get g1.typeIs PySem.F.entry_dict_get (PySem.F.args_dict_get_3 _ _ _) (meetsH_dict_get_default (tupleKind (intKind c.prog c.w)) a p (t.rel.notSys (obj_ne e)) _) ⟨by show A.units + 1 < cLine; omega, [i, j], xs, hk, g1, ?_⟩
  rw [atKey_valueAt]
  exact EP.tok1 (v := .d (.int _)) q (get_found g2 ry) t _
theorem setadd_rule {a : Addr} {x : Value} {i : Int} {is : List Int} (t : St c env f H s) (e : H a = some (.set is)) (hl : is.length < 4000) (rx : DtIn s.heap x (.int i)) (q : Q (.d .none) (H.set a (.set (if is.contains i then is else is ++ [i])))) :
    wpAny (model c.prog c.w) A (call (.builtin "set.add") [.ref a, x]) (EP c env f H s Q) NoE s := by
  obtain ⟨u, rfl⟩ := rx.intEq
  have hS := t.rel.objs _ _ e
  refine call_set_add (intKind_is _ _ i u) rfl hS (by unfold scanBound; omega) fun h' hs hS' => ?_
  obtain ⟨t2, k2⟩ := t.upd (n := s.toks + 1) (o := .set (if is.contains i then is else is ++ [i])) (obj_ne e) hs fun tk => by
    show h'.SetOf _ a _ _
    have e1 : (fun k => (if is.contains i then is else is ++ [i]).contains k) = fun k' => is.contains k' || decide (k' = i) := by
      funext k'
      by_cases hc : is.contains i = true
      · rw [if_pos hc]
        by_cases e : k' = i
        · subst e; rw [hc]; rfl
        · rw [decide_eq_false e, Bool.or_false]
      · rw [if_neg hc]
        simp [eq_comm]
    have e2 : (if is.contains i then is else is ++ [i]).length = if is.contains i then is.length else is.length + 1 := by
      split <;> simp
    rw [e1, e2]
    exact hS'
  exact .mk (v := .d .none) q .none t2 k2
theorem callWith_bi {id : String} {a' : Addr} {es : List Expr} {is : List IE} {pos : Pos} (l : SndL c C env k es is) (g : GoodA k A) (t : St c env f H s) {P : List AV → AH → Prop} (h : Wes C is f H P)
    (fin : ∀ xs vs H1 s1, P vs H1 → VAll c s1.heap xs vs → St c env f H1 s1 → wpAny (model c.prog c.w) A (call (.builtin id) (.ref a' :: xs)) (EP c env f H1 s1 Q) NoE s1) :
    wpAny (model c.prog c.w) A (callWith pos (.builtin id) [.ref a'] (backTo pos (starEach es env)) []) (EP c env f H s Q) NoE s := by
  have hp := l.plain (pos := pos)
  have body : wpAny (model c.prog c.w) A (spliced (backTo pos (starEach es env))) (fun xs s1 => wpAny (model c.prog c.w) A (call (.builtin id) (.ref a' :: xs)) (EP c env f H s Q) NoE s1) NoE s :=
    l.go g t h fun xs vs H1 s1 hq rv hn t1 k1 => wpFrom k1 (fin xs vs H1 s1 hq rv t1)
  cases l with
  | nil =>
    have h' : P [] H := h
    exact PySem.Calls.callWith_builtin rfl (PyProof.Rows.evalArgs_none (fin [] [] H s h' .nil t))
  | cons hs he l =>
    refine PySem.Calls.callWith_builtin hp ?_
    rw [hs] at body ⊢
    exact PySem.Calls.evalArgs_plain body
theorem long_no {n m : Nat} (h : n + m < lim) : Builtin.List.listTooLong (n + m) = false := decide_eq_false (Nat.not_lt.mpr (Nat.le_trans (Nat.le_of_lt h) (by decide)))
theorem room1 {n m : Nat} (h : n + m < lim) : n ≤ sizeLine := Nat.le_trans (Nat.le_add_right ..) (Nat.le_trans (Nat.le_of_lt h) (by decide))
theorem room2 {n m : Nat} (h : n + m < lim) : n + m ≤ sizeLine + 1 := Nat.le_trans (Nat.le_of_lt h) (by decide)
theorem extend_rule {a : Addr} {x : Value} {ds es : List Dt} (t : St c env f H s) (e : H a = some (.lst ds)) (hl : ds.length + es.length < lim) (rx : DtIn s.heap x (.tup es)) (q : Q (.d .none) (H.set a (.lst (ds ++ es)))) :
    wpAny (model c.prog c.w) A (call (.builtin "list.extend") [.ref a, x]) (EP c env f H s Q) NoE s := by
  obtain ⟨vs, n, g1, g2, g3⟩ := t.rel.list e
  obtain ⟨b, ws, rfl, ⟨n2, g4⟩, g5⟩ := rx.tupEq
  have sz : vs.toArray.size + ws.toArray.size < lim := by rw [List.size_toArray, List.size_toArray, g2.length, g5.length]; exact hl
  refine call_meets PySem.F.slot_list_extend ⟨_, g1, rfl⟩ PySem.F.entry_list_extend (PySem.F.args_list_extend_2 _ _) (PySem.AutoSeq1.list_extend_list_tuple_0 a _ n b _ n2 (by rw [long_no sz, Bool.and_false]; exact Bool.false_ne_true) (room1 sz) (room2 sz)) ⟨g1, g4, ?_⟩
  obtain ⟨n', hn'⟩ := upd_list (fun xs => xs ++ ws.toArray) g1
  obtain ⟨t2, k2⟩ := t.upd (n := s.toks) (o := .lst (ds ++ es)) (obj_ne e) (Heap.SameBut.update s.heap a _) fun tk => ⟨vs ++ ws, n', by simpa using hn', (g2.keep tk).append (g5.keep tk), by rw [List.length_append]; exact Nat.le_trans (Nat.le_of_lt hl) (by decide)⟩
  exact .mk (v := .d .none) q .none t2 k2
noncomputable def midOf (m : Str) : String :=
  if m = "append" then "list.append" else if m = "extend" then "list.extend" else if m = "pop" then "list.pop" else if m = "reverse" then "list.reverse" else if m = "get" then "dict.get" else "set.add"
theorem methO_rule {m : Str} {a : Addr} {vs : List AV} {xs : List Value} (g : GoodA k A) (t : St c env f H s) (rv : VAll c s.heap xs vs) (h : Meth a Q m vs H) :
    wpAny (model c.prog c.w) A (call (.builtin (midOf m)) (.ref a :: xs)) (EP c env f H s Q) NoE s := by
  cases h with
  | app e hl q => cases rv with | cons r1 rv => cases rv; exact append_rule t e hl r1 q
  | ext e hl q => cases rv with | cons r1 rv => cases rv; exact extend_rule t e hl r1 q
  | pop e q => cases rv; exact pop_rule t e q
  | rev e q => cases rv; exact reverse_rule t e q
  | getS e q => cases rv with | cons r1 rv => cases rv with | cons r2 rv => cases rv; exact getS_rule t e r1 r2 q
  | getT e q => cases rv with | cons r1 rv => cases rv with | cons r2 rv => cases rv; exact getT_rule g t e r1 r2 q
  | add e hl q => cases rv with | cons r1 rv => cases rv; exact setadd_rule t e hl r1 q
theorem snd_mb {m : Str} {o : Expr} {i : IE} {es : List Expr} {is : List IE} {apos pos : Pos} (h1 : SndO c C env o i k) (l : SndL c C env k es is) (hn : is.length < 29)
    (hbase : attributeBase o m env (eval o env) = eval o env) (hline : (apos.endLine == pos.line) = true) : SndO c C env (.Call (.Attribute o m apos) es [] pos) (.mb i m is) k := by
  intro A f H Q s g t h
  refine meth_call hbase (l.form hn) hline (h1.go g t (h : We C i f H (mbQ m fun a H1 => Wes C is f H1 (Meth a Q m))) fun a v H1 s1 hv rx t1 k1 pl => ?_)
  cases hv with
  | @mk a' o _ e hm hv =>
    obtain rfl : a = .ref _ := rx
    have go : ∀ {T : String}, s1.TypeIs (.ref a') T → PlainAttrs T → Slot T m (midOf m) → typeOf (.builtin (midOf m)) = pure (.type "method_descriptor") → (∀ b, Value.ref a' = .ref b → ∃ o, s1.heap.get? b = some o ∧ o.dict = none) →
        wpAny (model c.prog c.w) A (getMethod (.ref a') m pl) (fun fx s₂ => wpAny (model c.prog c.w) A (callWith pos fx.1 fx.2 (backTo pos (starEach es env)) []) (EP c env f H s Q) NoE s₂) NoE s1 := fun hT pa sl hty hd =>
      getMethod_builtin hT pa sl hty hd (wpFrom k1 (callWith_bi (Q := Q) l g t1 hv fun xs vs H1 s1 hq rv t1 => methO_rule g t1 rv hq))
    have hl : ∀ {ds : List Dt}, H1 a' = some (.lst ds) → s1.TypeIs (.ref a') "list" ∧ ∀ b, Value.ref a' = .ref b → ∃ o, s1.heap.get? b = some o ∧ o.dict = none := fun e => by
      obtain ⟨vs, n, g1, g2, g3⟩ := t1.rel.list e
      exact ⟨⟨_, g1, rfl⟩, fun b q => by cases q; exact ⟨_, g1, rfl⟩⟩
    cases hm with
    | app => exact go (hl e).1 PySem.F.plainAttrs_list PySem.F.slot_list_append (by kernel_rfl) (hl e).2
    | pop => exact go (hl e).1 PySem.F.plainAttrs_list PySem.F.slot_list_pop (by kernel_rfl) (hl e).2
    | rev => exact go (hl e).1 PySem.F.plainAttrs_list PySem.F.slot_list_reverse (by kernel_rfl) (hl e).2
    | ext => exact go (hl e).1 PySem.F.plainAttrs_list PySem.F.slot_list_extend (by kernel_rfl) (hl e).2
    | getS =>
      obtain ⟨⟨kvs, g1, g2⟩, _⟩ := t1.rel.objs _ _ e
      exact go g1.mapOf.typeIs PySem.F.plainAttrs_dict PySem.F.slot_dict_get (by kernel_rfl) g1.mapOf.noDict
    | getT =>
      obtain ⟨⟨kvs, g1, g2⟩, _⟩ := t1.rel.objs _ _ e
      exact go g1.typeIs PySem.F.plainAttrs_dict PySem.F.slot_dict_get (by kernel_rfl) (dictOfH_noDict g1)
    | add =>
      have g1 := t1.rel.objs _ _ e
      exact go g1.typeIs PySem.F.plainAttrs_set PySem.F.slot_set_add (by kernel_rfl) g1.noDict
end
abbrev ownB (env : Env) : Addr → Prop := fun b => b = env.locals ∨ ∃ x, env.cells.lookup x = some b
theorem Ext.own {env : Env} {H H' : AH} {s s' : Shared} (x : Ext (ownL env) H s H' s') : Ext (ownB env) H s H' s' := x.weaken fun _ h => .inl h
def StoOK (env : Env) (x : Str) : Prop := env.kindOf x = some .local ∨ env.kindOf x = some .cell
section
variable {c : Cx} {C : Oracle} {env : Env} {k : Nat} {A : Around} {f : Frm} {H : AH} {s : Shared} {Q : Post}
theorem St.ownAt (t : St c env f H s) {a : Addr} (ha : ownB env a) : H a = none ∧ c.hB.objs.size ≤ a ∧ ∃ o, s.heap.get? a = some o ∧ ∀ i n, o.data ≠ .seq i n := by
  rcases ha with rfl | ⟨z, hz⟩
  · obtain ⟨m, ⟨o', es, ep, ho', hd', _⟩, _⟩ := t.fr.vars
    exact ⟨t.fr.off, t.fr.ok.above, o', ho', fun i n e => by rw [hd'] at e; cases e⟩
  · obtain ⟨v', o', ho', hd'⟩ := t.fr.cells z a hz
    exact ⟨t.fr.coff z a hz, t.fr.ok.cabove z a hz, o', ho', fun i n e => by rw [hd'] at e; cases e⟩
theorem St.own {h' : Heap} {n : Nat} {a : Addr} {f' : Frm} (t : St c env f H s) (ha : ownB env a) (hs : Heap.SameBut a s.heap h') (hl : (h'.get? a).isSome = true)
    (hv : TupKeep s.heap h' → ∃ m, h'.Ns env.locals m ∧ ∀ x v, f' x = some v → VarAt c env m h' x v) (hc : ∀ x b, env.cells.lookup x = some b → ∃ v, h'.IsCell b v) :
    St c env f' H { s with heap := h', toks := n } ∧ Ext (ownB env) H s H { s with heap := h', toks := n } := by
  obtain ⟨na, sa, oa, hoa, hda⟩ := t.ownAt ha
  have tk : TupKeep s.heap h' := fun b o i n e hc hd => (hs.2 b fun z => by subst z; rw [hoa] at e; cases e; exact hda i n hd).trans e
  refine ⟨⟨⟨fun b o e => (hs.2 b fun z => ?_).trans (t.rel.keep b o e), t.rel.fresh, fun b o e => (t.rel.objs b o e).move (fun x hx => (hs.2 b fun z => ?_).trans hx) tk⟩, ⟨t.fr.ok, hv tk, hc, t.fr.off, t.fr.coff⟩⟩,
    ⟨fun b o e _ hb => (hs.2 b fun z => hb (z ▸ ha)).trans e, fun b hb => ?_, fun b hb => .inl hb, tk, rfl, rfl⟩⟩
  · subst z; exact absurd (Heap.lt_size e) (Nat.not_lt.mpr sa)
  · rw [z, na] at e; cases e
  · by_cases e : b = a
    · subst e; exact hl
    · show (h'.get? b).isSome = true
      rw [hs.2 b e]; exact hb
theorem Ext.ofSame {h' : Heap} {n : Nat} {a : Addr} (hs : Heap.SameBut a s.heap h') (hl : (h'.get? a).isSome = true) (tk : TupKeep s.heap h') : Ext (fun b => b = a) H s H { s with heap := h', toks := n } := by
  refine ⟨fun b o e _ hb => (hs.2 b hb).trans e, fun b hb => ?_, fun b hb => .inl hb, tk, rfl, rfl⟩
  by_cases e : b = a
  · subst e; exact hl
  · show (h'.get? b).isSome = true
    rw [hs.2 b e]; exact hb
theorem storeL_rule {x : Str} {y : Value} {v : AV} (hx : env.kindOf x = some .local) (t : St c env f H s) (r : VRep c s.heap y v) {Q : Unit → Shared → Prop}
    (q : ∀ s', St c env (f.put x v) H s' → Ext (ownL env) H s H s' → Q () s') : wpAny (model c.prog c.w) A (storeName env x y) Q NoE s := by
  obtain ⟨m, hn, hm⟩ := t.fr.vars
  refine wpAny_storeName_local hx hn (fun h' hn' hs => ?_) (by rw [t.fr.ok.kind]; rfl)
  have hl : (h'.get? env.locals).isSome = true := by obtain ⟨o, es, ep, ho, _⟩ := hn'; rw [ho]; rfl
  have key := t.own (f' := f.put x v) (n := s.toks + 1) (.inl rfl) hs hl
  refine (fun w => q _ w.1 (Ext.ofSame hs hl w.2.tup)) (key (fun tk => ⟨_, hn', fun z w e => ?_⟩) fun z b hb => ?_)
  · by_cases e1 : z = x
    · subst e1
      rw [show f.put z v z = some v from if_pos rfl] at e; cases e
      exact .inl ⟨hx, y, if_pos rfl, r.keep tk⟩
    · rw [show f.put x v z = f z from if_neg e1] at e
      rcases (hm z w e).move tk (fun a ha u q => q.sameBut hs (t.cellNe ha)) with ⟨h1, u, h2, h3⟩ | h
      · exact .inl ⟨h1, u, (if_neg e1).trans h2, h3⟩
      · exact .inr h
  · obtain ⟨u, hu⟩ := t.fr.cells z b hb
    exact ⟨u, hu.sameBut hs (t.cellNe hb)⟩
theorem store_rule {x : Str} {y : Value} {v : AV} (hx : StoOK env x) (t : St c env f H s) (r : VRep c s.heap y v) {Q : Unit → Shared → Prop}
    (q : ∀ s', St c env (f.put x v) H s' → Ext (ownB env) H s H s' → Q () s') : wpAny (model c.prog c.w) A (storeName env x y) Q NoE s := by
  rcases hx with hx | hx
  · exact storeL_rule hx t r fun s' t' k => q s' t' k.own
  · obtain ⟨m, hn, hm⟩ := t.fr.vars
    obtain ⟨a, ha⟩ := t.fr.ok.cdef x hx
    obtain ⟨u, hu⟩ := t.fr.cells x a ha
    refine wpAny_storeName_cell t.fr.ok.kind hx ha hu fun h' hc' hs => ?_
    have hne : env.locals ≠ a := fun z => t.cellNe ha z.symm
    have key := t.own (f' := f.put x v) (n := s.toks) (.inr ⟨x, ha⟩) hs (by obtain ⟨o, ho, _⟩ := hc'; rw [ho]; rfl)
    refine (fun w => q _ w.1 w.2) (key (fun tk => ⟨m, hn.sameBut hs hne, fun z w e => ?_⟩) fun z b hb => ?_)
    · by_cases e1 : z = x
      · subst e1
        rw [show f.put z v z = some v from if_pos rfl] at e; cases e
        exact .inr ⟨.inl hx, a, y, ha, hc', r.keep tk⟩
      · rw [show f.put x v z = f z from if_neg e1] at e
        exact (hm z w e).move tk fun b hb u q => q.sameBut hs fun z' => e1 (t.fr.ok.cinj z x a (z' ▸ hb) ha)
    · by_cases e1 : b = a
      · subst e1; exact ⟨_, hc'⟩
      · obtain ⟨u, hu⟩ := t.fr.cells z b hb
        exact ⟨u, hu.sameBut hs e1⟩
inductive NamesG (ok : Str → Prop) : List Expr → List Str → Prop
  | nil : NamesG ok [] []
  | cons {x : Str} {p : Pos} {es : List Expr} {xs : List Str} : ok x → NamesG ok es xs → NamesG ok (.Name x p :: es) (x :: xs)
inductive TgG (ok : Str → Prop) : Expr → Tg → Prop
  | one {x : Str} {p : Pos} : ok x → TgG ok (.Name x p) (.one x)
  | many {es : List Expr} {xs : List Str} {kk : Nat} {p : Pos} : NamesG ok es xs → TgG ok (.Tuple es kk p) (.many xs)
abbrev LocOK (env : Env) (x : Str) : Prop := env.kindOf x = some .local
abbrev TgR (env : Env) := TgG (StoOK env)
abbrev TgL (env : Env) := TgG (LocOK env)
abbrev StoF (c : Cx) (env : Env) (A : Around) (H : AH) (ok : Str → Prop) (own : Addr → Prop) : Prop := ∀ {f : Frm} {x : Str} {y : Value} {v : AV} {s : Shared}, ok x → St c env f H s → VRep c s.heap y v → ∀ {Q : Unit → Shared → Prop},
  (∀ s', St c env (f.put x v) H s' → Ext own H s H s' → Q () s') → wpAny (model c.prog c.w) A (storeName env x y) Q NoE s
theorem names_rule {ok : Str → Prop} {own : Addr → Prop} (F : StoF c env A H ok own) {es : List Expr} {xs : List Str} (hn : NamesG ok es xs) : ∀ {ds : List Dt} {vs : List Value} {f f' : Frm} {s : Shared}, Puts xs ds f f' → DtAll s.heap vs ds → St c env f H s →
    ∀ {Q : Unit → Shared → Prop}, (∀ s', St c env f' H s' → Ext own H s H s' → Q () s') → wpAny (model c.prog c.w) A (assignInOrder ((assignEach es env).map (·.2)) vs) Q NoE s := by
  induction hn with
  | nil =>
    intro ds vs f f' s hp r t Q q
    cases hp
    exact assignInOrder_nil (q s t (Ext.refl _ _ _))
  | @cons x p es xs hx _ ih =>
    intro ds vs f f' s hp r t Q q
    cases hp with
    | cons hp =>
      cases r with
      | cons r1 r => exact assignInOrder_cons (assign_Name (F (v := .d _) hx t r1 fun s1 t1 k1 => ih hp (r.keep k1.tup) t1 fun s' t' k' => q s' t' (k1.trans k')))
theorem NamesG.facts {ok : Str → Prop} {es : List Expr} {xs : List Str} (hn : NamesG ok es xs) : (assignEach es env).length = xs.length ∧ (assignEach es env).findIdx? (·.1) = none := by
  induction hn with
  | nil => exact ⟨rfl, rfl⟩
  | cons _ _ ih => exact ⟨by show _ + 1 = _ + 1; rw [ih.1], by show List.findIdx? _ ((false, _) :: _) = none; rw [List.findIdx?_cons, ih.2]; rfl⟩
theorem puts_length {xs : List Str} {ds : List Dt} {f f' : Frm} (h : Puts xs ds f f') : xs.length = ds.length := by
  induction h with
  | nil => rfl
  | cons _ ih => exact congrArg Nat.succ ih
theorem assign_gen {ok : Str → Prop} {own : Addr → Prop} (F : StoF c env A H ok own) (hw : ∀ b, ownL env b → own b) {e : Expr} {tg : Tg} {x : Value} {v : AV} {f' : Frm} (g : GoodA k A) (hT : TgG ok e tg) (hb : BindT tg v f f') (t : St c env f H s) (r : VRep c s.heap x v) {Q : Unit → Shared → Prop}
    (q : ∀ s', St c env f' H s' → Ext own H s H s' → Q () s') : wpAny (model c.prog c.w) A (assign e env x) Q NoE s := by
  cases hb with
  | one => cases hT with | one hx => exact assign_Name (F hx t r q)
  | many hb =>
    cases hT with
    | many hn =>
      obtain ⟨a, vs, rfl, ht, hv⟩ := DtIn.tupEq r
      have hf := hn.facts (env := env)
      refine assign_Tuple_tuple g.hd ht.is (by rw [hf.1, puts_length hb, List.size_toArray, hv.length]) hf.2 fun h' he => ?_
      obtain ⟨t1, k1⟩ := t.grow (n := s.toks) fun b o e => he b o (Nat.ne_of_lt (Heap.lt_size e)) e
      exact names_rule F hn hb (hv.keep k1.tup) t1 fun s' t' k' => q s' t' ((k1.weaken hw).trans k')
theorem assign_rule {e : Expr} {tg : Tg} {x : Value} {v : AV} {f' : Frm} (g : GoodA k A) (hT : TgR env e tg) (hb : BindT tg v f f') (t : St c env f H s) (r : VRep c s.heap x v) {Q : Unit → Shared → Prop}
    (q : ∀ s', St c env f' H s' → Ext (ownB env) H s H s' → Q () s') : wpAny (model c.prog c.w) A (assign e env x) Q NoE s := assign_gen (fun h t r _ q => store_rule h t r q) (fun _ h => .inl h) g hT hb t r q
theorem assignL_rule {e : Expr} {tg : Tg} {x : Value} {v : AV} {f' : Frm} (g : GoodA k A) (hT : TgL env e tg) (hb : BindT tg v f f') (t : St c env f H s) (r : VRep c s.heap x v) {Q : Unit → Shared → Prop}
    (q : ∀ s', St c env f' H s' → Ext (ownL env) H s H s' → Q () s') : wpAny (model c.prog c.w) A (assign e env x) Q NoE s := assign_gen (fun h t r _ q => storeL_rule h t r q) (fun _ h => h) g hT hb t r q
end
theorem ns_unique {h : Heap} {a : Addr} {m m' : Str → Option Value} (x : h.Ns a m) (y : h.Ns a m') : m = m' := by
  obtain ⟨o, es, ep, ho, hd, _, hm⟩ := x
  obtain ⟨o', es', ep', ho', hd', _, hm'⟩ := y
  rw [ho] at ho'; cases ho'
  rw [hd] at hd'; cases hd'
  funext z; rw [← hm z, ← hm' z]
theorem ledger_upto (hB h : Heap) (L : Addr) : ∀ n : Nat, ∃ news, News hB L h news ∧ (∀ a o, a < n → h.get? a = some o → hB.get? a = none → a ≠ L → (a, o) ∈ news) ∧ (∀ p ∈ news, p.1 < n) ∧ (news.map (·.1)).Nodup := by
  intro n
  induction n with
  | zero => exact ⟨[], fun p hp => (nomatch hp), fun a o h => absurd h (Nat.not_lt_zero _), fun p hp => (nomatch hp), .nil⟩
  | succ n ih =>
    obtain ⟨news, h1, h2, h3, h4⟩ := ih
    have skip : (∀ o, h.get? n = some o → hB.get? n = none → n ≠ L → False) → ∃ news, News hB L h news ∧ (∀ a o, a < n + 1 → h.get? a = some o → hB.get? a = none → a ≠ L → (a, o) ∈ news) ∧ (∀ p ∈ news, p.1 < n + 1) ∧ (news.map (·.1)).Nodup := fun no =>
      ⟨news, h1, fun a o ha e1 e2 e3 => by
        rcases Nat.lt_or_eq_of_le (Nat.le_of_lt_succ ha) with ha | rfl
        · exact h2 a o ha e1 e2 e3
        · exact (no o e1 e2 e3).elim, fun p hp => Nat.lt_succ_of_lt (h3 p hp), h4⟩
    cases e1 : h.get? n with
    | none => exact skip fun o e => by rw [e1] at e; cases e
    | some o =>
      cases e2 : hB.get? n with
      | some _ => exact skip fun o _ e => by rw [e2] at e; cases e
      | none =>
        by_cases e3 : n = L
        · exact skip fun _ _ _ e => e e3
        · refine ⟨(n, o) :: news, fun p hp => ?_, fun a o' ha q1 q2 q3 => ?_, fun p hp => ?_, ?_⟩
          · rcases List.mem_cons.mp hp with rfl | hp
            · exact ⟨e1, e3, e2⟩
            · exact h1 p hp
          · rcases Nat.lt_or_eq_of_le (Nat.le_of_lt_succ ha) with ha | rfl
            · exact .tail _ (h2 a o' ha q1 q2 q3)
            · rw [e1] at q1; cases q1; exact .head _
          · rcases List.mem_cons.mp hp with rfl | hp
            · exact Nat.lt_succ_self _
            · exact Nat.lt_succ_of_lt (h3 p hp)
          · rw [List.map_cons, List.nodup_cons]
            refine ⟨fun hm => ?_, h4⟩
            obtain ⟨p, hp, e⟩ := List.mem_map.mp hm
            have := h3 p hp
            rw [e] at this
            exact Nat.lt_irrefl _ this
theorem full_ledger (hB h : Heap) (L : Addr) : ∃ news, News hB L h news ∧ (∀ a o, h.get? a = some o → hB.get? a = none → a ≠ L → (a, o) ∈ news) ∧ (news.map (·.1)).Nodup :=
  let ⟨news, h1, h2, _, h4⟩ := ledger_upto hB h L h.objs.size
  ⟨news, h1, fun a o e => h2 a o (Heap.lt_size e) e, h4⟩
theorem upd_exists {d : Addr} {o o' : Obj} {news : List (Addr × Obj)} (h : (d, o) ∈ news) (hn : (news.map (·.1)).Nodup) : ∃ news', Upd d o o' news news' ∧ (d, o') ∈ news' ∧ ∀ p ∈ news, p.1 ≠ d → p ∈ news' := by
  induction news with
  | nil => exact nomatch h
  | cons p r ih =>
    rw [List.map_cons, List.nodup_cons] at hn
    rcases List.mem_cons.mp h with h | hm
    · subst h
      refine ⟨(d, o') :: r, .head fun q hq z => hn.1 (List.mem_map.mpr ⟨q, hq, z⟩), .head _, fun q hq hne => ?_⟩
      rcases List.mem_cons.mp hq with rfl | hq
      · exact absurd rfl hne
      · exact .tail _ hq
    · obtain ⟨news', U, h1, h2⟩ := ih hm hn.2
      refine ⟨p :: news', .tail (fun z => hn.1 (List.mem_map.mpr ⟨(d, o), hm, z.symm⟩)) U, .tail _ h1, fun q hq hq' => ?_⟩
      rcases List.mem_cons.mp hq with rfl | hq
      · exact .head _
      · exact .tail _ (h2 q hq hq')
section
variable {c : Cx} {C : Oracle} {env : Env} {k : Nat} {A : Around} {f : Frm} {H : AH} {s : Shared} {Q : Post}
theorem St.updL {h' : Heap} {n : Nat} {a : Addr} {o : AO} (t : St c env f H s) (ha : H a ≠ none) (hk : ∀ b o, s.heap.get? b = some o → b ≠ a → b ≠ env.locals → h'.get? b = some o) (hL : ∀ m, s.heap.Ns env.locals m → h'.Ns env.locals m)
    (r : TupKeep s.heap h' → ORep c h' a o) : St c env f (H.set a o) { s with heap := h', toks := n } ∧ Ext (ownL env) H s (H.set a o) { s with heap := h', toks := n } := by
  have hne : env.locals ≠ a := fun q => ha (q ▸ t.fr.off)
  obtain ⟨mL, hnL, hmL⟩ := t.fr.vars
  have tk : TupKeep s.heap h' := fun b x i m e hc hd => by
    refine hk b x e (fun q => ?_) fun q => ?_
    · subst q
      cases z : H b with
      | none => exact ha z
      | some o' =>
        obtain ⟨y, hy, hn⟩ := (t.rel.objs b o' z).some
        rw [e] at hy; cases hy
        exact hn i m hc hd
    · obtain ⟨o', es, ep, ho', hd', _⟩ := hnL
      rw [q, ho'] at e; cases e; rw [hd] at hd'; cases hd'
  have hr := r tk
  obtain ⟨y, hy, _⟩ := hr.some
  refine ⟨⟨⟨fun b x e => hk b x (t.rel.keep b x e) (fun q => ?_) fun q => ?_, fun b hb => ?_, fun b o' e => ?_⟩, ⟨t.fr.ok, ?_, fun x b e => ?_, ?_, fun x b e => ?_⟩⟩, ⟨fun b x e hn hb => hk b x e (fun q => ha (q ▸ hn)) hb, fun b hb => ?_, fun b hb => ?_, tk, rfl, rfl⟩⟩
  · subst q; exact absurd (Heap.lt_size e) (Nat.not_lt.mpr (t.rel.fresh b ha))
  · subst q; exact absurd (Heap.lt_size e) (Nat.not_lt.mpr t.fr.ok.above)
  · by_cases e : b = a
    · subst e; exact t.rel.fresh b ha
    · simp only [AH.set, if_neg e] at hb; exact t.rel.fresh b hb
  · by_cases e' : b = a
    · subst e'; simp only [AH.set, if_true, Option.some.injEq] at e; subst e; exact hr
    · simp only [AH.set, if_neg e'] at e; exact (t.rel.objs b o' e).move (fun x hx => hk b x hx e' fun q => by rw [q, t.fr.off] at e; cases e) tk
  · refine ⟨mL, hL _ hnL, fun x v e => (hmL x v e).move tk fun b hb y ⟨ob, hob, hdb⟩ => ⟨ob, hk b ob hob (fun z => ha (z ▸ t.fr.coff x b hb)) (t.cellNe hb), hdb⟩⟩
  · obtain ⟨v, ob, hob, hdb⟩ := t.fr.cells x b e
    exact ⟨v, ob, hk b ob hob (fun z => ha (z ▸ t.fr.coff x b e)) (t.cellNe e), hdb⟩
  · simp only [AH.set, if_neg hne]; exact t.fr.off
  · simp only [AH.set, if_neg (fun q => ha (q ▸ t.fr.coff x b e) : b ≠ a)]; exact t.fr.coff x b e
  · by_cases e : b = a
    · subst e; show (h'.get? b).isSome = true; rw [hy]; rfl
    · by_cases e2 : b = env.locals
      · obtain ⟨o', es, ep, ho', _⟩ := hL _ hnL
        show (h'.get? b).isSome = true; rw [e2, ho']; rfl
      · obtain ⟨o', ho⟩ := Option.isSome_iff_exists.mp hb
        show (h'.get? b).isSome = true
        rw [hk b o' ho e e2]; rfl
  · by_cases e : b = a
    · subst e; exact .inl ha
    · simp only [AH.set, if_neg e] at hb; exact .inl hb
theorem NsAll.length {h : Heap} {es : List DictEntry} {fs : List (Str × AV)} (r : NsAll c h es fs) : es.length = fs.length := by
  induction r with
  | nil => rfl
  | cons _ _ _ ih => simp [ih]
theorem putL_hit {e : DictEntry} {r : List DictEntry} {x : Str} {hs : Int} {ky y : Value} (h : e.key.isStr x = true) : putL x hs ky y (e :: r) = { e with val := y } :: r := by
  unfold putL; rw [h]; rfl
theorem putL_miss {e : DictEntry} {r : List DictEntry} {x : Str} {hs : Int} {ky y : Value} (h : e.key.isStr x = false) : putL x hs ky y (e :: r) = e :: putL x hs ky y r := by
  show (if e.key.isStr x = true then _ else _) = _
  rw [h]; rfl
theorem putF_hit {x x' : Str} {v v' : AV} {fs : List (Str × AV)} (h : x' = x) : putF x v ((x', v') :: fs) = (x', v) :: fs := if_pos h
theorem putF_miss {x x' : Str} {v v' : AV} {fs : List (Str × AV)} (h : x' ≠ x) : putF x v ((x', v') :: fs) = (x', v') :: putF x v fs := if_neg h
theorem NsAll.put {h : Heap} {es : List DictEntry} {fs : List (Str × AV)} (r : NsAll c h es fs) {x : Str} {hs : Int} {tk : Tok} {y : Value} {v : AV} (ry : VRep c h y v) : NsAll c h (putL x hs (.str x tk) y es) (putF x v fs) := by
  induction r with
  | nil => exact .cons rfl ry .nil
  | @cons e r x' v' t fs hk hv hr ih =>
    by_cases q : x' = x
    · rw [putF_hit q, putL_hit (by rw [hk]; exact beq_iff_eq.mpr q)]
      exact .cons hk ry hr
    · rw [putF_miss q, putL_miss (by rw [hk]; exact beq_eq_false_iff_ne.mpr q)]
      exact .cons hk hv ih
theorem putF_length (x : Str) (v : AV) (fs : List (Str × AV)) : (putF x v fs).length ≤ fs.length + 1 := by
  induction fs with
  | nil => exact Nat.le_refl _
  | cons e r ih =>
    by_cases q : e.1 = x
    · rw [show putF x v (e :: r) = _ from if_pos q]; exact Nat.le_succ _
    · rw [show putF x v (e :: r) = _ from if_neg q]; exact Nat.succ_le_succ ih
theorem setattr_rule {x : Str} {o y : Value} {a v : AV} {Q : AH → Prop} (K : AttOK c x) (h : setAttr H a x v Q) (t : St c env f H s) (ro : VRep c s.heap o a) (ry : VRep c s.heap y v) {R : Unit → Shared → Prop}
    (q : ∀ H' s', Q H' → St c env f H' s' → Ext (ownL env) H s H' s' → R () s') : wpAny (model c.prog c.w) A (PySem.setAttr o x y) R NoE s := by
  cases h with
  | @mk a' dx cl fs _ _ _ e1 e2 hlen hq =>
    obtain rfl : o = .ref _ := ro
    obtain ⟨es, n, g1, g2⟩ := t.rel.objs _ _ e2
    obtain ⟨m, hn, hm⟩ := t.fr.vars
    have F : Fr c.hB env.locals s.heap m := ⟨hn, t.rel.keep, t.fr.ok.above⟩
    obtain ⟨news, N, hall, hnd⟩ := full_ledger c.hB s.heap env.locals
    have hdx := obj_ne e2
    have hdL : dx ≠ env.locals := fun z => hdx (z ▸ t.fr.off)
    have hdB : c.hB.get? dx = none := by
      cases z : c.hB.get? dx with
      | none => rfl
      | some w => exact absurd (Heap.lt_size z) (Nat.not_lt.mpr (t.rel.fresh dx hdx))
    obtain ⟨news', U, hm1, hm2⟩ := upd_exists (o' := dictOf (putL x (PyData.keyHash c.w.params x) (.str x (s.toks + 1)) y es) (putN x es n)) (hall dx _ g1 hdB hdL) hnd
    have hl2 := putF_length x v fs
    have hl3 := (g2.put (x := x) (hs := PyData.keyHash c.w.params x) (tk := s.toks + 1) ry).length
    have hget : (getL x es).isSome = true := by cases getL_ns g2 x with
      | none _ w => rw [w]; rfl
      | some _ w _ => rw [w]; rfl
    refine set_dict F c.X N (I := ⟨t.rel.objs _ _ e1, rfl, rfl, g1⟩) rfl (K.set cl) (K.over cl) (K.taker cl) (K.has cl) hget rfl U (by omega) fun h' F' N' => ?_
    have hk : ∀ b ob, s.heap.get? b = some ob → b ≠ dx → b ≠ env.locals → h'.get? b = some ob := by
      intro b ob hob h1 h2
      cases z : c.hB.get? b with
      | some w =>
        have e3 := t.rel.keep b w z
        rw [hob] at e3; cases e3
        exact F'.keep b _ z
      | none => exact (N' _ (hm2 _ (hall b ob hob z h2) h1)).1
    obtain ⟨t2, k2⟩ := t.updL (h' := h') (n := s.toks + 2) (o := .ns (putF x v fs)) hdx hk (fun m' hm' => by rw [ns_unique hm' hn]; exact F'.ns) fun tk => ⟨_, _, (N' _ hm1).1, (g2.keep tk).put (ry.keep tk)⟩
    exact q _ _ hq t2 k2
end
end
section
open PySem PySem.W PyProof.Rows
set_option backward.match.sparseCases true
noncomputable def mySel (start stop step : Int) (i : Nat) : Bool :=
  if step > 0 then start ≤ i && i < stop && (i - start) % step == 0
  else stop < i && i ≤ start && (start - i) % (-step) == 0
theorem mySel_one {a n off : Nat} (h : off < n) : mySel (a : Int) (n : Int) 1 off = decide (a ≤ off) := by
  have h2 : (off : Int) < n := Int.ofNat_lt.mpr h
  unfold mySel
  simp only [show (1 : Int) > 0 by decide, if_true, Int.emod_one]
  simp [h2]
theorem sel_take {α : Type} (a n : Nat) (l : List α) : ∀ (off : Nat), off + l.length ≤ n → ((l.zipIdx off).filterMap fun p => if mySel (a : Int) (n : Int) 1 p.2 = true then none else some p.1) = l.take (a - off) := by
  induction l with
  | nil => intro off _; exact List.take_nil.symm
  | cons x l ih =>
    intro off h
    have h' : off + 1 + l.length ≤ n := by rw [Nat.add_right_comm]; exact h
    have ih := ih (off + 1) h'
    have hs := mySel_one (a := a) (Nat.lt_of_lt_of_le (Nat.lt_succ_self off) (Nat.le_trans (Nat.le_add_right _ _) h'))
    rw [List.zipIdx_cons]
    by_cases e : a ≤ off
    · rw [Nat.sub_eq_zero_of_le (Nat.le_succ_of_le e)] at ih
      rw [Nat.sub_eq_zero_of_le e]
      refine Eq.trans (List.filterMap_cons_none ?_) ih
      exact if_pos (hs.trans (decide_eq_true e))
    · refine Eq.trans (List.filterMap_cons_some (b := x) ?_) ?_
      · exact if_neg fun z => e (of_decide_eq_true (hs.symm.trans z))
      rw [ih, ← Nat.sub_one_add_one (Nat.sub_ne_zero_of_lt (Nat.lt_of_not_le e))]; rfl
theorem stored_hit {K : Type} [DecidableEq K] {k' k : K} {v' v : Value} {r : List (K × Value)} (e : k' = k) (hn : k' ∉ r.map (·.1)) : stored ((k', v') :: r) k v = (k', v) :: r := by
  subst e
  unfold stored
  rw [List.any_cons, decide_eq_true rfl, Bool.true_or, if_pos rfl, List.map_cons, if_pos rfl, map_store_of_not_mem r _ v hn]
theorem stored_miss {K : Type} [DecidableEq K] {k' k : K} {v' v : Value} {r : List (K × Value)} (e : k' ≠ k) : stored ((k', v') :: r) k v = (k', v') :: stored r k v := by
  unfold stored
  rw [List.any_cons, decide_eq_false e, Bool.false_or, List.map_cons, if_neg e]
  cases r.any fun p => decide (p.1 = k)
  · rfl
  · rfl
theorem KvAll.stored {K : Type} [DecidableEq K] {h : Heap} {kvs : List (K × Value)} {es : List (K × Dt)} (r : KvAll h kvs es) (hn : (kvs.map (·.1)).Nodup) {k : K} {v : Value} {d : Dt} (rv : DtIn h v d) : KvAll h (stored kvs k v) (putK k d es) := by
  induction r with
  | nil => exact .cons rv .nil
  | @cons k' v' d' r t a hr ih =>
    rw [List.map_cons, List.nodup_cons] at hn
    by_cases e : k' = k
    · rw [stored_hit e hn.1, show putK k d ((k', d') :: t) = _ from if_pos e]; exact .cons rv hr
    · rw [stored_miss e, show putK k d ((k', d') :: t) = _ from if_neg e]; exact .cons a (ih hn.2)
theorem putK_length {K V : Type} [DecidableEq K] (k : K) (v : V) (es : List (K × V)) : (putK k v es).length ≤ es.length + 1 := by
  induction es with
  | nil => exact Nat.le_refl _
  | cons e r ih =>
    by_cases q : e.1 = k
    · rw [show putK k v (e :: r) = _ from if_pos q]; exact Nat.le_succ _
    · rw [show putK k v (e :: r) = _ from if_neg q]; exact Nat.succ_le_succ ih
theorem putK_map {K V W : Type} [DecidableEq K] (g : V → W) (k : K) (v : V) (es : List (K × V)) : putK k (g v) (es.map fun e => (e.1, g e.2)) = (putK k v es).map fun e => (e.1, g e.2) := by
  induction es with
  | nil => rfl
  | cons e r ih =>
    show (if e.1 = k then (e.1, g v) :: _ else (e.1, g e.2) :: putK k (g v) (r.map fun e => (e.1, g e.2))) = List.map _ (if e.1 = k then (e.1, v) :: r else e :: putK k v r)
    by_cases q : e.1 = k
    · rw [if_pos q, if_pos q]; rfl
    · rw [if_neg q, if_neg q, ih]; rfl
theorem dictOf_nodup {prog : Program} {w : World} {K : Type} [DecidableEq K] {knd : KeyKind prog w K} {h : Heap} {a : Addr} {kvs : List (K × Value)} (x : h.DictOf knd a kvs) : (kvs.map (·.1)).Nodup := let ⟨_, _, _, _, _, _, _, _, n⟩ := x; n
section
variable {c : Cx} {C : Oracle} {env : Env} {k : Nat} {A : Around} {f : Frm} {H : AH} {s : Shared} {Q : Post}
theorem put_room {K V : Type} [DecidableEq K] {k : K} {v : V} {es : List (K × V)} (hl : es.length < lim) : (putK k v es).length ≤ lim := Nat.le_trans (putK_length k v es) hl
theorem line_room {n m : Nat} (e : n = m) (hl : m ≤ lim) : n ≤ sizeLine := e ▸ Nat.le_trans hl (by decide)
theorem setsub_rule {o i y : Value} {a j v : AV} {Q : AH → Prop} (g : GoodA k A) (h : setSub H a j v Q) (t : St c env f H s) (ro : VRep c s.heap o a) (ri : VRep c s.heap i j) (ry : VRep c s.heap y v) {R : Unit → Shared → Prop}
    (q : ∀ H' s', Q H' → St c env f H' s' → Ext (ownL env) H s H' s' → R () s') : wpAny (model c.prog c.w) A (setItem o i y) R NoE s := by
  have ry : ∀ {x : Dt}, v = .d x → DtIn s.heap y x := fun e => by subst e; exact ry
  cases h with
  | @lst a' ds j x _ e h1 hq =>
    obtain rfl : o = .ref _ := ro
    obtain ⟨u, rfl⟩ := DtIn.intEq ri
    obtain ⟨vs, n, g1, g2, g3⟩ := t.rel.list e
    have hl := g2.length
    have hlim : 2 * lim = 2000000 := rfl
    refine ki_setAt g1 (Int.natCast_nonneg j) (by omega) (by rw [List.size_toArray]; omega) ?_
    obtain ⟨n', hn'⟩ := upd_list (fun xs => xs.setIfInBounds j y) g1
    obtain ⟨t2, k2⟩ := t.upd (n := s.toks) (o := .lst (ds.set j x)) (obj_ne e) (Heap.SameBut.update s.heap a' (Obj.mapSeq (·.setIfInBounds j y))) fun tk => ⟨vs.set j y, n', by simpa using hn', (g2.keep tk).set (DtIn.keep tk (ry rfl)) _, by rw [List.length_set]; exact g3⟩
    exact q _ _ hq t2 k2
  | @di a' es j x _ e hlt hq =>
    obtain rfl : o = .ref _ := ro
    obtain ⟨u, rfl⟩ := DtIn.intEq ri
    obtain ⟨⟨kvs, g1, g2⟩, g3⟩ := t.rel.objs _ _ e
    refine wpAny_setItem_pairs (intKind_is _ _ j u) g1 (fun h' hd hs => ?_) (line_room g2.length g3)
    obtain ⟨t2, k2⟩ := t.upd (n := s.toks + 1) (o := .di (putK j x es)) (obj_ne e) hs fun tk => ⟨⟨_, hd, (g2.keep tk).stored (dictOf_nodup g1) (DtIn.keep tk (ry rfl))⟩, put_room hlt⟩
    exact q _ _ hq t2 k2
  | @ds a' es j z _ e hlt hq =>
    obtain rfl : o = .ref _ := ro
    obtain ⟨u, rfl⟩ := DtIn.strEq ri
    obtain ⟨⟨kvs, g1, g2⟩, g3⟩ := t.rel.objs _ _ e
    refine wpAny_setItem_pairs (strKind_is _ _ j u) g1 (fun h' hd hs => ?_) (line_room (g2.length.trans (List.length_map _)) g3)
    obtain ⟨t2, k2⟩ := t.upd (n := s.toks + 1) (o := .ds (putK j z es)) (obj_ne e) hs fun tk => ⟨⟨_, hd, by rw [← putK_map]; exact (g2.keep tk).stored (dictOf_nodup g1) (DtIn.keep tk (ry rfl))⟩, put_room hlt⟩
    exact q _ _ hq t2 k2
  | @dt a' es j l z _ e hlt hq =>
    obtain rfl : o = .ref _ := ro
    obtain ⟨p, rfl, hk⟩ := keyT (c := c) ri
    obtain ⟨⟨xs, g1, g2⟩, g3⟩ := t.rel.objs _ _ e
    have hl := g2.length
    rw [List.length_map, List.length_map] at hl
    have hg := g.units
    refine wpAny_setItem_heap (knd := tupleKind (intKind c.prog c.w)) (k := [j, l]) (xs := xs) (by show A.units + 1 < cLine; omega) hk g1 (fun h' hd hs => ?_) (line_room hl g3)
    have hn : ((xs.map fun x => (x.1, x.2.2)).map (·.1)).Nodup := by
      obtain ⟨_, _, _, _, _, _, _, _, n⟩ := g1
      rw [List.map_map]; exact n
    obtain ⟨t2, k2⟩ := t.upd (n := s.toks + (tupleKind (intKind c.prog c.w)).draws [j, l]) (o := .dt (putK [j, l] z es)) (obj_ne e) hs fun tk => ⟨⟨_, hd, by
      have e1 : (storedH xs [j, l] p y).map (fun x => (x.1, x.2.2)) = stored (xs.map fun x => (x.1, x.2.2)) [j, l] y := kvsOf_storedH xs [j, l] p y
      rw [e1, ← putK_map]
      exact (g2.keep tk).stored hn (DtIn.keep tk (ry rfl))⟩, put_room hlt⟩
    exact q _ _ hq t2 k2
theorem del_rule {a : Addr} {ds : List Dt} {j : Nat} {u : Tok} {sl : Addr} (t : St c env f H s) (e : H a = some (.lst ds)) (hs : s.heap.IsSliceOf sl (.int (j : Int) u) .none .none) {R : Unit → Shared → Prop}
    (q : ∀ s', St c env f (H.set a (.lst (ds.take j))) s' → Ext (ownL env) H s (H.set a (.lst (ds.take j))) s' → R () s') : wpAny (model c.prog c.w) A (delItem (.ref a) (.ref sl)) R NoE s := by
  obtain ⟨vs, n, g1, g2, g3⟩ := t.rel.list e
  obtain ⟨os, hos, hcs, hds⟩ := id hs
  have hTs : s.TypeIs (.ref sl) "slice" := ⟨os, hos, hcs⟩
  have hT : s.TypeIs (.ref a) "list" := ⟨_, g1, rfl⟩
  have hsz : vs.toArray.size ≤ sizeLine := by rw [List.size_toArray, g2.length]; exact Nat.le_trans g3 (by decide)
  refine wpAny_delItem_slot hT (by decide) PySem.F.slot_list_delitem (wpAny_call_entry PySem.F.slot_list_delitem hT PySem.F.entry_list_delitem ?_ (PySem.F.args_list_delitem_2 _ _))
  show wpAny _ _ (do
    if let some k ← Builtin.List.listSubscript? (.ref sl) then
      match seqIndex? k (← Builtin.List.listItems (.ref a)).size with
      | some k => Builtin.List.listUpdate (.ref a) (·.eraseIdxIfInBounds k); return ← ret .none
      | none => rule "list.__delitem__.out-of-range"; raiseError "IndexError" "list assignment index out of range"
    if (← typeOf (.ref sl)) != .type "slice" then Builtin.List.listBadSubscript (.ref sl)
    let (lo, hi, st) ← Builtin.List.listSliceParts (.ref sl)
    let old ← Builtin.List.listItems (.ref a)
    let (start, stop, step) ← sliceIndices lo hi st old.size
    rule "list.__delitem__.slice"
    Builtin.List.listUpdate (.ref a) fun xs => (xs.toList.zipIdx.filterMap fun (x, k) => if mySel start stop step k then none else some x).toArray
    let gone := old.toList.zipIdx.filterMap fun (x, k) => if mySel start stop step k then some x else none
    letGo (if step == 1 then gone.reverse else gone)
    ret .none) _ _ s
  refine wpAny_bind ?_
  unfold Builtin.List.listSubscript?
  refine wpAny_bind (wpAny_specialOf hTs slice_no_index ?_)
  simp only [Option.isNone_none, if_true]
  refine wpAny_pure ?_
  show wpAny _ _ (typeOf (.ref sl) >>= _) _ _ s
  refine wpAny_bind (wpAny_typeOf hTs ?_)
  rw [if_neg (by decide)]
  rw [listSliceParts_eq]
  refine wpAny_bind (wpAny_bind (wpAny_field hos hds (x := .none) rfl (wpAny_bind (wpAny_listPart .none ?_))))
  rw [if_neg (show ¬ ((rawPart none == rawInt 0) = true) from Bool.false_ne_true)]
  refine wpAny_bind (wpAny_field hos hds (x := .int (j : Int) u) rfl (wpAny_bind (wpAny_listPart (.int (j : Int) u) ?_)))
  refine wpAny_bind (wpAny_field hos hds (x := .none) rfl (wpAny_bind (wpAny_listPart .none (wpAny_pure ?_))))
  refine wpAny_bind (m := Builtin.List.listItems (.ref a)) ?_
  unfold Builtin.List.listItems
  refine wpAny_bind (wpAny_seqItems g1 rfl (wpAny_pure ?_))
  refine wpAny_bind (wpAny_of_eq (sliceIndices_raw (some (j : Int)) none none vs.toArray.size (by simp)) ?_)
  refine wpAny_bind (wpAny_rule ?_)
  have hb : sliceBounds (some (j : Int)) none none vs.toArray.size = (((min j vs.length : Nat) : Int), ((vs.length : Nat) : Int), 1) := by
    simp only [sliceBounds, Option.getD_none, List.size_toArray]
    have h1 : ¬ ((j : Int) < 0) := by omega
    simp only [h1, if_false, show (1 : Int) > 0 by decide, if_true, Prod.mk.injEq, and_true]
    omega
  rw [hb]
  have hcut : ∀ xs : Array Value, xs.toList = vs → (xs.toList.zipIdx.filterMap fun (p : Value × Nat) => if mySel ((min j vs.length : Nat) : Int) ((vs.length : Nat) : Int) 1 p.2 = true then none else some p.1).toArray = (vs.take j).toArray := by
    intro xs hx
    rw [hx, sel_take (min j vs.length) vs.length vs 0 (by omega), Nat.sub_zero]
    congr 1
    rcases Nat.le_total j vs.length with h | h
    · rw [Nat.min_eq_left h]
    · rw [Nat.min_eq_right h, List.take_of_length_le (Nat.le_refl _), List.take_of_length_le h]
  show wpAny _ _ (updateSeq a _ >>= _) _ _ s
  refine wpAny_bind (wpAny_updateSeq g1 rfl ?_ hsz ?_)
  · refine wpAny_bind (wpAny_letGo (wpAny_pure ?_))
    obtain ⟨n', hn'⟩ := upd_list (fun xs : Array Value => (xs.toList.zipIdx.filterMap fun (p : Value × Nat) => if mySel ((min j vs.length : Nat) : Int) ((vs.length : Nat) : Int) 1 p.2 = true then none else some p.1).toArray) g1
    obtain ⟨t2, k2⟩ := t.upd (n := s.toks) (o := .lst (ds.take j)) (obj_ne e) (Heap.SameBut.update s.heap a (Obj.mapSeq fun xs : Array Value => (xs.toList.zipIdx.filterMap fun (p : Value × Nat) => if mySel ((min j vs.length : Nat) : Int) ((vs.length : Nat) : Int) 1 p.2 = true then none else some p.1).toArray))
      fun tk => ⟨vs.take j, n', by rw [hcut vs.toArray (by simp)] at hn'; exact hn', (g2.keep tk).take j, by rw [List.length_take]; omega⟩
    exact ⟨.none, rfl, q _ t2 k2⟩
  · show (List.toArray _).size ≤ sizeLine + 1
    have := hcut vs.toArray (by simp)
    rw [show (vs.toArray.toList.zipIdx.filterMap fun (p : Value × Nat) => if mySel ((min j vs.length : Nat) : Int) ((vs.length : Nat) : Int) 1 p.2 = true then none else some p.1).toArray = (vs.take j).toArray from this]
    rw [List.size_toArray, List.length_take]
    rw [List.size_toArray] at hsz
    omega
end
end
section
open PySem PySem.W PyProof.Rows
inductive FlR (c : Cx) (h : Heap) : Flow → Fl → Prop
  | next : FlR c h .next .next
  | brk : FlR c h .brk .brk
  | cont : FlR c h .cont .cont
  | ret {y : Value} {v : AV} : VRep c h y v → FlR c h (.ret y) (.ret v)
inductive SP (c : Cx) (env : Env) (H : AH) (s : Shared) (Q : SPost) (fl : Flow) (s' : Shared) : Prop
  | mk {fl' : Fl} {f' : Frm} {H' : AH} (q : Q fl' f' H') (r : FlR c s'.heap fl fl') (t : St c env f' H' s') (x : Ext (ownB env) H s H' s') : SP c env H s Q fl s'
abbrev SndX (c : Cx) (C : Oracle) (env : Env) (st : Stmt) (ir : IS) (k : Nat) : Prop :=
  ∀ (A : Around) (f : Frm) (H : AH) (Q : SPost) (s : Shared), GoodA k A → St c env f H s → Wx C ir f H Q → wpAny (model c.prog c.w) A (exec st env) (SP c env H s Q) NoE s
abbrev SndXs (c : Cx) (C : Oracle) (env : Env) (sts : List Stmt) (irs : List IS) (k : Nat) : Prop :=
  ∀ (A : Around) (f : Frm) (H : AH) (Q : SPost) (s : Shared), GoodA k A → St c env f H s → Wxs C irs f H Q → wpAny (model c.prog c.w) A (execs sts env) (SP c env H s Q) NoE s
section
variable {c : Cx} {C : Oracle} {env : Env} {k : Nat} {A : Around} {f f' : Frm} {H H1 : AH} {s s1 : Shared} {Q : SPost}
theorem SP.from {fl : Flow} {s' : Shared} (x : Ext (ownB env) H s H1 s1) (e : SP c env H1 s1 Q fl s') : SP c env H s Q fl s' := by
  cases e with | mk q r t y => exact .mk q r t (x.trans y)
theorem SP.next (q : Q .next f H1) (t : St c env f H1 s1) (x : Ext (ownB env) H s H1 s1) : SP c env H s Q .next s1 := .mk q .next t x
theorem wpFromX {m : Sem Flow} {E : Value → Shared → Prop} {s2 : Shared} (x : Ext (ownB env) H s H1 s1) (h : wpAny (model c.prog c.w) A m (SP c env H1 s1 Q) E s2) : wpAny (model c.prog c.w) A m (SP c env H s Q) E s2 :=
  wpAny_mono h (fun _ _ p => p.from x) fun _ _ z => z
theorem sndXs_nil : SndXs c C env [] [] k := fun A f H Q s g t h => wpAny_execs_nil (SP.next h t (Ext.refl _ _ _))
theorem sndXs_cons {st : Stmt} {sts : List Stmt} {i : IS} {is : List IS} (h1 : SndX c C env st i k) (h2 : SndXs c C env sts is k) : SndXs c C env (st :: sts) (i :: is) k := by
  intro A f H Q s g t h
  refine wpAny_execs_cons (wpAny_mono (h1 A f H (nextQ (fun f' H' => Wxs C is f' H' Q) Q) s g t h) (fun fl s1 e => ?_) fun _ _ z => z)
  cases e with
  | mk q r t1 x =>
    cases r with
    | next => exact wpFromX x (h2 A _ _ Q s1 g t1 q)
    | brk => exact .mk (fl' := .brk) q .brk t1 x
    | cont => exact .mk (fl' := .cont) q .cont t1 x
    | ret rv => exact .mk (fl' := .ret _) q (.ret rv) t1 x
theorem asg_rule {e : Expr} {tg : Tg} {x : Value} {v : AV} (g : GoodA k A) (hT : TgR env e tg) (h : asgP tg f (Q .next) v H) (t : St c env f H s) (r : VRep c s.heap x v) {R : Unit → Shared → Prop}
    (q : ∀ f' s', Q .next f' H → St c env f' H s' → Ext (ownB env) H s H s' → R () s') : wpAny (model c.prog c.w) A (assign e env x) R NoE s := by
  cases hT with
  | one hx => exact assign_rule g (.one hx) .one t r fun s' => q _ s' h
  | many hn => cases (h : putsQ _ f (Q .next) v H) with | mk hp hq => exact assign_rule g (.many hn) (.many hp) t r fun s' => q _ s' hq
theorem sndX_asg {tgt value : Expr} {pos : Pos} {tg : Tg} {i : IE} (hT : TgR env tgt tg) (h1 : SndO c C env value i k) (hs : swapsWithSole [tgt] value pos.line env = pure false) (hw : swappedStores [tgt] value env = pure none)
    (ha : ∀ v, assignAll v ((assignEach [tgt] env).map (·.2)) = assign tgt env v) :
    SndX c C env (.Assign [tgt] value pos) (.asg tg i) k := by
  intro A f H Q s g t h
  rw [exec_Assign]
  refine wpAny_bind (wpAny_standAt ?_)
  rw [hs]
  refine wpAny_bind (wpAny_pure ?_)
  rw [if_neg (by decide)]
  refine wpAny_bind (h1.go g t (h : We C i f H (asgP tg f (Q .next))) fun x v H1 s1 hq rx t1 k1 => ?_)
  rw [hw]
  refine wpAny_bind (wpAny_pure ?_)
  show wpAny (model c.prog c.w) A (do assignAll x ((assignEach [tgt] env).map (·.2)); pure Flow.next) _ _ s1
  rw [ha]
  exact wpAny_bind (asg_rule g hT hq t1 rx fun f' s2 hq t2 k2 => wpAny_pure (SP.next hq t2 (k1.own.trans k2)))
theorem Frm.put_comm (f : Frm) {x y : Str} (h : x ≠ y) (u v : AV) : (f.put x u).put y v = (f.put y v).put x u := by
  funext z
  show (if z = y then some v else if z = x then some u else f z) = if z = x then some u else if z = y then some v else f z
  by_cases h1 : z = y
  · subst h1
    rw [if_pos rfl, if_neg (Ne.symm h), if_pos rfl]
  · rw [if_neg h1, if_neg h1]
theorem sndX_swap {elts : List Expr} {kk : Nat} {tpos : Pos} {value : Expr} {pos : Pos} {x y : Str} {i : IE} (hx : StoOK env x) (hy : StoOK env y) (hxy : x ≠ y) (h1 : SndO c C env value i k)
    (hs : swapsWithSole [.Tuple elts kk tpos] value pos.line env = pure false) (hw : swappedStores [.Tuple elts kk tpos] value env = pure (some [x, y])) :
    SndX c C env (.Assign [.Tuple elts kk tpos] value pos) (.asg (.many [x, y]) i) k := by
  intro A f H Q s g t h
  refine Assign_Tuple_swapped (names := [x, y]) ?_ hs hw
  refine h1.go g t (h : We C i f H (putsQ [x, y] f (Q .next))) fun z v H1 s1 hq rx t1 k1 => ?_
  cases hq with
  | mk hp hq =>
  cases hp with
  | cons hp =>
  cases hp with
  | cons hp =>
  cases hp with
  | nil =>
  obtain ⟨a, vs, rfl, ht, hv⟩ := DtIn.tupEq rx
  cases hv with
  | cons rp hv =>
  cases hv with
  | cons rq hv =>
  cases hv with
  | nil =>
    refine unpackItems_tuple (items := #[_, _]) g.hd ht.is fun h' he => ?_
    obtain ⟨t2, k2⟩ := t1.grow (n := s1.toks) fun b o e => he b o (Nat.ne_of_lt (Heap.lt_size e)) e
    rw [Frm.put_comm f hxy _ _] at hq
    refine assignInOrder_cons (bindName_ (store_rule (v := .d _) hy t2 (rq.keep k2.tup) fun s3 t3 k3 => ?_))
    refine assignInOrder_cons (bindName_ (store_rule (v := .d _) hx t3 ((rp.keep k2.tup).keep k3.tup) fun s4 t4 k4 => ?_))
    exact assignInOrder_nil (SP.next hq t4 (((k1.trans k2).own.trans k3).trans k4))
theorem sndX_satt {o value : Expr} {x : Str} {p pos : Pos} {io iv : IE} (K : AttOK c x) (ho : SndO c C env o io k) (hv : SndO c C env value iv k) (hs : swapsWith value (some (.Attribute o x p)) pos.line env = pure false) :
    SndX c C env (.Assign [.Attribute o x p] value pos) (.satt io x iv) k := fun A f H Q s g t h =>
  plainObj_wpAny_Assign_Attribute (hv.go g t (h : We C iv f H fun v H1 => We C io f H1 fun a H2 => setAttr H2 a x v (Q .next f)) fun y v H1 s1 h rv t1 k1 => ho.go g t1 h fun z a H2 s2 h ro t2 k2 =>
    setattr_rule K h t2 ro (rv.keep k2.tup) fun H3 s3 hq t3 k3 => SP.next hq t3 ((k1.trans k2).trans k3).own) hs
theorem sndX_ssub {o ix value : Expr} {p pos : Pos} {io ii iv : IE} (ho : SndO c C env o io k) (hi : SndO c C env ix ii k) (hv : SndO c C env value iv k) (hs : swapsWith value (some (.Subscript o ix p)) pos.line env = pure false) :
    SndX c C env (.Assign [.Subscript o ix p] value pos) (.ssub io ii iv) k := fun A f H Q s g t h =>
  wpAny_Assign_Subscript (hv.go g t (h : We C iv f H fun v H1 => We C io f H1 fun a H2 => We C ii f H2 fun k H3 => setSub H3 a k v (Q .next f)) fun y v H1 s1 h rv t1 k1 => ho.go g t1 h fun z a H2 s2 h ro t2 k2 =>
    hi.go g t2 h fun z j H3 s3 h ri t3 k3 => setsub_rule g h t3 (ro.keep k3.tup) ri ((rv.keep k2.tup).keep k3.tup) fun H4 s4 hq t4 k4 => SP.next hq t4 (((k1.trans k2).trans k3).trans k4).own) hs
theorem sndX_ret {e : Expr} {i : IE} {pos : Pos} (h1 : SndO c C env e i k) : SndX c C env (.Return (some e) pos) (.ret i) k := fun A f H Q s g t h =>
  wpAny_Return_some (h1.go g t (h : We C i f H fun v H1 => Q (.ret v) f H1) fun y v H1 s1 h rv t1 k1 => .mk h (.ret rv) t1 k1.own)
theorem sndX_retN {pos : Pos} : SndX c C env (.Return none pos) .retN k := fun A f H Q s g t h => wpAny_Return_none (.mk h (.ret (v := .d .none) .none) t (Ext.refl _ _ _))
theorem sndX_brk {pos : Pos} : SndX c C env (.Break pos) .brk k := fun A f H Q s g t h => wpAny_Break (.mk h .brk t (Ext.refl _ _ _))
theorem sndX_cnt {pos : Pos} : SndX c C env (.Continue pos) .cnt k := fun A f H Q s g t h => wpAny_Continue (.mk h .cont t (Ext.refl _ _ _))
theorem sndX_pas {pos : Pos} : SndX c C env (.Pass pos) .pas k := fun A f H Q s g t h => wpAny_Pass (SP.next h t (Ext.refl _ _ _))
theorem interactive_no (hk : env.scope.kind = .function) : interactive env = false := by
  unfold interactive; rw [hk]; rfl
theorem sndX_exp {e : Expr} {i : IE} {pos : Pos} (h1 : SndO c C env e i k) (hs : swapsWith e none pos.line env = pure false) : SndX c C env (.Expr e pos) (.exp i) k := by
  intro A f H Q s g t h
  refine wpAny_Expr (h1.go g t (h : We C i f H (expQ (Q .next f))) fun y v H1 s1 h rv t1 k1 => ?_) (interactive_no t.fr.ok.kind) hs
  cases h with
  | none h => obtain rfl := DtIn.noneEq rv; exact SP.next h t1 k1.own
  | int h => obtain ⟨u, rfl⟩ := DtIn.intEq rv; exact SP.next h t1 k1.own
theorem sndX_ife {test : Expr} {body orelse : List Stmt} {pos : Pos} {it : IE} {ia ib : List IS} (h0 : SndT c C env test it k) (h1 : SndXs c C env body ia k) (h2 : SndXs c C env orelse ib k) :
    SndX c C env (.If test body orelse pos) (.ife it ia ib) k := fun A f H Q s g t h =>
  wpAny_If (h0.go g t (h : We C it f H (ifQ (fun H1 => Wxs C ia f H1 Q) (fun H1 => Wxs C ib f H1 Q))) (fun H1 s1 q t1 x => wpFromX x.own (h1 A f H1 Q s1 g t1 q)) fun H1 s1 q t1 x => wpFromX x.own (h2 A f H1 Q s1 g t1 q))
theorem notedBy_no {M : Model} {E' : Value → Shared → Prop} : ∀ x s', NoE x s' → notedBy M A env E' x s' := fun _ _ z => z.elim
inductive LoopS (c : Cx) (env : Env) (H : AH) (s : Shared) (I : Frm → AH → Prop) (s' : Shared) : Prop
  | mk {f' : Frm} {H' : AH} (q : I f' H') (t : St c env f' H' s') (x : Ext (ownB env) H s H' s') : LoopS c env H s I s'
theorem sndX_whl {test : Expr} {body : List Stmt} {pos : Pos} {it : IE} {ib : List IS} (h0 : SndT c C env test it k) (h1 : SndXs c C env body ib k) :
    SndX c C env (.While test body [] pos) (.whl it ib) k := by
  intro A f H Q s g t h
  cases (h : WhlL (fun f' H' Q' => We C it f' H' Q') (fun f' H' Q' => Wxs C ib f' H' Q') f H Q) with
  | mk I n hI step =>
  refine wpAny_While (codeAny_whileLoop (fun n s' => LoopS c env H s (I n) s') (fun n s1 hL => ?_) n (.mk hI t (Ext.refl _ _ _)))
  cases hL with
  | mk hI1 t1 x1 =>
  refine wpAny_mono (h0 A _ _ _ _ s1 g t1 (step n _ _ hI1)) (fun b s2 e => ?_) notedBy_no
  cases e with
  | @t H2 _ q t2 x2 =>
    refine wpAny_mono (h1 A _ H2 _ s2 g t2 q) (fun fl s3 e => ?_) notedBy_no
    cases e with
    | mk q3 r3 t3 x3 =>
    have x13 := (x1.trans x2.own).trans x3
    cases r3 with
    | next => obtain ⟨n', hn, hI'⟩ := q3; exact ⟨n', hn, .mk hI' t3 x13⟩
    | cont => obtain ⟨n', hn, hI'⟩ := q3; exact ⟨n', hn, .mk hI' t3 x13⟩
    | brk => exact SP.next q3 t3 x13
    | ret rv => exact .mk q3 (.ret rv) t3 x13
  | f q t2 x2 => exact wpAny_execs_nil (SP.next q t2 (x1.trans x2.own))
end
theorem seq_list_iadd : seqSlot? (.type "list") (dunderI "add") = pure (some (.builtin "list.__iadd__")) := PySem.seqSlot_of PySem.F.slot_list_iadd.lookup (by decide +kernel)
theorem wpAny_inplace_list {M : Model} {A : Around} {E : Value → Shared → Prop} {s : Shared} {a b : Value} {Q : Value → Shared → Prop} (ha : s.TypeIs a "list") (hb : s.TypeIs b "list")
    (hc : wpAny M A (call (.builtin "list.__iadd__") [a, b]) Q E s) : wpAny M A (inplaceOp .Add a b) Q E s := by
  unfold inplaceOp
  refine wpAny_holding ?_
  have hfi : fillsInplaceSlot (.type "list") "add" (Operator.Add == .Add) = pure false := by
    unfold fillsInplaceSlot
    show (typeLookup (.type "list") (dunderI "add") >>= fun fi => pure (fi.isSome && !isSeqSlot fi)) = pure false
    rw [PySem.F.slot_list_iadd.lookup]
    show (pure (true && !isSeqSlot (some (.builtin "list.__iadd__"))) : Sem Bool) = pure false
    rw [show isSeqSlot (some (.builtin "list.__iadd__")) = true by decide +kernel]; rfl
  refine wpAny_bind (wpAny_typeOf ha (wpAny_bind (wpAny_of_eq hfi ?_)))
  show wpAny M A (if false = true then _ else _) Q E s
  rw [if_neg Bool.false_ne_true]
  refine wpAny_bind (wpAny_binaryOp1_none (nm := "add") ha hb noFill_list_add ?_)
  refine wpAny_bind (wpAny_of_eq seq_list_iadd ?_)
  exact wpAny_bind (wpAny_rule hc)
section
variable {c : Cx} {C : Oracle} {env : Env} {k : Nat} {A : Around} {f f' : Frm} {H H1 : AH} {s s1 : Shared} {Q : SPost}
theorem Frm.put_same {f : Frm} {x : Str} {v : AV} (h : f x = some v) : f.put x v = f := by
  funext z
  by_cases e : z = x
  · rw [show f.put x v z = _ from if_pos e, e, h]
  · exact if_neg e
theorem load_rule {x : Str} {v : AV} (hf : f x = some v) (t : St c env f H s) (hc : (x == ("__classdict__" : Str)) = false) {P : Value → Shared → Prop} (q : ∀ y, VRep c s.heap y v → P y s) : wpAny (model c.prog c.w) A (loadName env x) P NoE s := by
  obtain ⟨m, hn, hm⟩ := t.fr.vars
  rcases hm x v hf with ⟨hk, y, hy, r⟩ | ⟨hk, a, y, ha, hcell, r⟩
  · exact wpAny_loadName_local t.fr.ok.kind hk hn hy (q y r)
  · rcases hk with hk | hk
    · exact wpAny_loadName_cell t.fr.ok.kind hk ha hcell (q y r)
    · exact wpAny_loadName_free t.fr.ok.kind hk ha hcell (q y r) hc
theorem sndX_aug {x : Str} {p pos : Pos} {op : Operator} {e : Expr} {i : IE} (hx : StoOK env x) (hc : (x == ("__classdict__" : Str)) = false) (h1 : SndO c C env e i k) : SndX c C env (.AugAssign (.Name x p) op e pos) (.aug x op i) k := by
  intro A f H Q s g t h
  obtain ⟨rfl, u, hu, h⟩ := (h : op = .Add ∧ ∃ u, f x = some u ∧ We C i f H (augQ x f (Q .next) u))
  refine wpAny_AugAssign_Name (load_rule hu t hc fun o ro => h1.go g t h fun y v H1 s1 hq rv t1 k1 => ?_)
  cases hq with
  | int hq =>
    obtain ⟨t1', rfl⟩ := DtIn.intEq ro
    obtain ⟨t2', rfl⟩ := DtIn.intEq rv
    exact wpAny_iadd_int (store_rule (v := .d (.int _)) hx (t1.tok _) (DtIn.int _ _) fun s2 t2 k2 => SP.next hq t2 ((k1.own.tok _).trans k2))
  | @lst a b ds es _ e1 e2 hl hq =>
    obtain rfl : o = .ref a := ro
    obtain rfl : y = .ref b := rv
    obtain ⟨vs, n, g1, g2, g3⟩ := t1.rel.list e1
    obtain ⟨ws, n2, g4, g5, g6⟩ := t1.rel.list e2
    have sz : vs.toArray.size + ws.toArray.size < lim := by rw [List.size_toArray, List.size_toArray, g2.length, g5.length]; exact hl
    refine wpAny_inplace_list ⟨_, g1, rfl⟩ ⟨_, g4, rfl⟩ ?_
    refine call_meets PySem.F.slot_list_iadd ⟨_, g1, rfl⟩ PySem.F.entry_list_iadd (PySem.F.args_list_iadd_2 _ _) (PySem.AutoSeq1.list___iadd___list_list_0 a _ n b _ n2 (by rw [long_no sz, Bool.and_false]; exact Bool.false_ne_true) (room1 sz) (room2 sz)) ⟨g1, g4, ?_⟩
    obtain ⟨n', hn'⟩ := upd_list (fun xs => xs ++ ws.toArray) g1
    obtain ⟨t2, k2⟩ := t1.upd (n := s1.toks) (o := .lst (ds ++ es)) (obj_ne e1) (Heap.SameBut.update s1.heap a _) fun tk => ⟨vs ++ ws, n', by simpa using hn', (g2.keep tk).append (g5.keep tk), by rw [List.length_append]; exact Nat.le_trans (Nat.le_of_lt hl) (by decide)⟩
    refine store_rule (v := .r a) hx t2 rfl fun s3 t3 k3 => ?_
    rw [Frm.put_same hu] at t3
    exact SP.next hq t3 ((k1.trans k2).own.trans k3)
theorem sndX_del {o lo : Expr} {sp p pos : Pos} {io il : IE} (ho : SndO c C env o io k) (hl : SndO c C env lo il k) : SndX c C env (.Delete [.Subscript o (.Slice (some lo) none none sp) p] pos) (.del io il) k := by
  intro A f H Q s g t h
  rw [arm_exec_Delete]
  refine wpAny_bind (wpAny_standAt (wpAny_bind ?_))
  show wpAny (model c.prog c.w) A (do
    (do let ov ← eval o env; let iv ← holding [ov] (eval (.Slice (some lo) none none sp) env); standAt p; holding [ov, iv] (delItem ov iv); release [ov, iv] [] : Sem Unit)
    deleteEach [] env) _ _ s
  refine wpAny_bind (wpAny_bind (ho.go g t (h : We C io f H fun a H1 => We C il f H1 (delQ (Q .next f) a)) fun a x H1 s1 hx rx t1 k1 => wpAny_bind (wpAny_holding (wpAny_Slice ?_))))
  rw [evalPart_some, evalPart_none]
  refine hl.go g t1 hx fun b y H2 s2 hq ry t2 k2 => wpAny_pure (wpAny_pure ?_)
  cases hq with
  | mk e hq =>
    obtain rfl : a = .ref _ := rx
    obtain ⟨u, rfl⟩ := DtIn.intEq ry
    obtain ⟨t3, k3⟩ := t2.grow (n := s2.toks) (push_keeps { cls := .type "slice", data := .fields #[.int _ u, .none, .none] })
    refine wpAny_bind (wpAny_standAt (wpAny_bind (wpAny_holding (del_rule t3 e (Heap.IsSliceOf.new ..) fun s4 t4 k4 => ?_))))
    exact wpAny_release (wpAny_pure (wpAny_pure (SP.next hq t4 (((k1.trans k2).trans k3).trans k4).own)))
end
section
variable {c : Cx} {C : Oracle} {env : Env} {k : Nat} {A : Around} {f f' : Frm} {H H1 : AH} {s s1 : Shared} {Q : SPost} {I : Addr}
theorem TupKeep.off {h h' : Heap} (hn : ∀ o, h.get? I = some o → o.cls ≠ .type "tuple") (hk : Heap.ExtBut I h h') : TupKeep h h' := fun b o i n e hc hd => hk b o (fun z => by subst z; exact hn o e hc) e
theorem Rel.off {h h' : Heap} (R : Rel c H h) (hI : H I = none) (hb : c.hB.objs.size ≤ I) (tk : TupKeep h h') (hk : Heap.ExtBut I h h') : Rel c H h' := by
  refine ⟨fun b o e => hk b o (fun z => ?_) (R.keep b o e), R.fresh, fun b o e => (R.objs b o e).move (fun x hx => hk b x (fun z => ?_) hx) tk⟩
  · subst z; exact absurd (Heap.lt_size e) (Nat.not_lt.mpr hb)
  · subst z; rw [hI] at e; cases e
theorem St.offT {h' : Heap} {n : Nat} (t : St c env f H s) (hI : H I = none) (ho : ¬ ownB env I) (hb : c.hB.objs.size ≤ I) (tk : TupKeep s.heap h') (hk : Heap.ExtBut I s.heap h') :
    St c env f H { s with heap := h', toks := n } := by
  obtain ⟨m, hm, hv⟩ := t.fr.vars
  have hL : env.locals ≠ I := fun z => ho (.inl z.symm)
  have hC : ∀ x a, env.cells.lookup x = some a → ∀ v, s.heap.IsCell a v → h'.IsCell a v := fun x a e v ⟨o, ho', hd⟩ => ⟨o, hk a o (fun z => ho (.inr ⟨x, z ▸ e⟩)) ho', hd⟩
  refine ⟨t.rel.off hI hb tk hk, ⟨t.fr.ok, ⟨m, hm.at' fun o e => hk _ o hL e, fun x v e => (hv x v e).move tk fun a ha y q => hC x a ha y q⟩, fun x a e => ?_, t.fr.off, t.fr.coff⟩⟩
  obtain ⟨v, q⟩ := t.fr.cells x a e
  exact ⟨v, hC x a e v q⟩
theorem St.off {h' : Heap} {n : Nat} (t : St c env f H s) (hI : H I = none) (ho : ¬ ownB env I) (hb : c.hB.objs.size ≤ I) (hn : ∀ o, s.heap.get? I = some o → o.cls ≠ .type "tuple") (hk : Heap.ExtBut I s.heap h') :
    St c env f H { s with heap := h', toks := n } := t.offT hI ho hb (TupKeep.off hn hk) hk
theorem Ext.off {own : Addr → Prop} {H0 : AH} {s0 : Shared} {h' : Heap} {n : Nat} (x : Ext own H0 s0 H s) (hI : s0.heap.get? I = none) (hk : Heap.ExtBut I s.heap h') : Ext own H0 s0 H { s with heap := h', toks := n } := by
  refine ⟨fun b o e n1 n2 => hk b o (fun z => by subst z; rw [hI] at e; cases e) (x.keep b o e n1 n2), fun b hb => ?_, x.dom, fun b o i n e hc hd => hk b o (fun z => by subst z; rw [hI] at e; cases e) (x.tup b o i n e hc hd), x.gens, x.os⟩
  have hb' := x.live b hb
  cases q : s.heap.get? b with
  | none => rw [q] at hb'; cases hb'
  | some o =>
    show (h'.get? b).isSome = true
    rw [hk b o (fun z => by subst z; rw [hI] at hb; cases hb) q]; rfl
theorem it_ne {T : String} (h : Value.type "tuple" = Value.type T) (hT : ("tuple" = T) = False := by decide) : False := by
  injection h with h
  rw [hT] at h; exact h
structure Itr (c : Cx) (A : Around) (I : Addr) (vs : List AV) (chk : AH → Prop) (J : Nat → Heap → Prop) : Prop where
  frame : ∀ i h h', J i h → (∀ o, h.get? I = some o → h'.get? I = some o) → TupKeep h h' → J i h'
  notup : ∀ i h o, J i h → h.get? I = some o → o.cls ≠ .type "tuple"
  live : ∀ i h, J i h → ∃ o, h.get? I = some o
  item : ∀ i v (s : Shared) (H : AH) (Q : Option Value → Shared → Prop) (E : Value → Shared → Prop), vs[i]? = some v → J i s.heap → Rel c H s.heap → chk H →
    (∀ y h' n, VRep c h' y v → J (i + 1) h' → Heap.ExtBut I s.heap h' → Q (some y) { s with heap := h', toks := n }) → wpAny (model c.prog c.w) A (pyNext (.ref I)) Q E s
  done : ∀ (s : Shared) (H : AH) (Q : Option Value → Shared → Prop) (E : Value → Shared → Prop), J vs.length s.heap → Rel c H s.heap → chk H →
    (∀ h' n, Heap.ExtBut I s.heap h' → Q none { s with heap := h', toks := n }) → wpAny (model c.prog c.w) A (pyNext (.ref I)) Q E s
  self : ∀ i (s : Shared) (Q : Value → Shared → Prop) (E : Value → Shared → Prop), J i s.heap → Q (.ref I) s → wpAny (model c.prog c.w) A (pyIter (.ref I)) Q E s
inductive ForS (c : Cx) (env : Env) (H0 : AH) (s0 : Shared) (I : Addr) (N : Nat) (Inv : Nat → Frm → AH → Prop) (J : Nat → Heap → Prop) (n : Nat) (s' : Shared) : Prop
  | mk {i : Nat} {f' : Frm} {H' : AH} (hi : i ≤ N) (hn : n = N - i) (q : Inv i f' H') (t : St c env f' H' s') (x : Ext (ownB env) H0 s0 H' s') (j : J i s'.heap) (e : H' I = none) : ForS c env H0 s0 I N Inv J n s'
theorem less_turn {i N : Nat} (h : i < N) : N - (i + 1) < N - i := by omega
theorem loop_rule {target : Expr} {tg : Tg} {body : List Stmt} {ib : List IS} {vs : List AV} {chk : AH → Prop} {J : Nat → Heap → Prop} (g : GoodA k A) (hT : TgR env target tg) (hb : SndXs c C env body ib k) (W : Itr c A I vs chk J)
    (hlet : ∀ v, letOwnedTupleGo target (.ref I) v = pure ()) {H0 : AH} {s0 : Shared} (h0 : s0.heap.get? I = none) (hbase : c.hB.objs.size ≤ I) (hown : ¬ ownB env I)
    (t : St c env f H s) (x : Ext (ownB env) H0 s0 H s) (hJ : J 0 s.heap) (hI : H I = none) (h : ForL chk (fun f' H' Q' => Wxs C ib f' H' Q') tg vs f H Q) :
    codeAny (model c.prog c.w) A (.forLoop target (.ref I) body [] env) (fun r s' => match r with | .ok fl => SP c env H0 s0 Q fl s' | .error e => cameBackBy (model c.prog c.w) A env NoE e s') s := by
  cases h with
  | mk Inv i0 step fin =>
  refine codeAny_forLoop (ForS c env H0 s0 I vs.length Inv J) (fun n s1 hS => ?_) _ (.mk (Nat.zero_le _) rfl i0 t x hJ hI) hlet
  cases hS with
  | @mk i f1 H1 hi hn h1 t1 x1 hJ1 hI1 =>
  subst hn
  rcases Nat.lt_or_eq_of_le hi with hlt | rfl
  · obtain ⟨hchk, f2, hb2, h1⟩ := step i f1 H1 _ (List.getElem?_eq_getElem hlt) h1
    refine W.item i _ s1 H1 _ _ (List.getElem?_eq_getElem hlt) hJ1 t1.rel hchk fun y h' n ry hJ' hk => ?_
    have t2 := t1.off (n := n) hI1 hown hbase (fun o e => W.notup _ _ o hJ1 e) hk
    have x2 := x1.off (n := n) h0 hk
    refine wpAny_mono (assign_rule g hT hb2 t2 ry (Q := fun _ s3 => St c env f2 H1 s3 ∧ Ext (ownB env) H1 { s1 with heap := h', toks := n } H1 s3) fun s3 t3 k3 => ⟨t3, k3⟩) (fun _ s3 e3 => ?_) notedBy_no
    obtain ⟨t3, k3⟩ := e3
    have hJ3 : J (i + 1) s3.heap := W.frame _ _ _ hJ' (fun o e => k3.keep I o e hI1 hown) k3.tup
    refine wpAny_mono (hb A f2 H1 _ s3 g t3 h1) (fun fl s4 e4 => ?_) notedBy_no
    cases e4 with
    | @mk _ f4 H4 q4 r4 t4 k4 =>
    have hJ4 : J (i + 1) s4.heap := W.frame _ _ _ hJ3 (fun o e => k4.keep I o e hI1 hown) k4.tup
    have hI4 : H4 I = none := by
      obtain ⟨o, ho⟩ := W.live _ _ hJ3
      exact k4.out ho hI1
    have x4 := (x2.trans k3).trans k4
    cases r4 with
    | next => exact ⟨_, less_turn hlt, .mk hlt rfl q4 t4 x4 hJ4 hI4⟩
    | cont => exact ⟨_, less_turn hlt, .mk hlt rfl q4 t4 x4 hJ4 hI4⟩
    | brk => exact SP.next q4 t4 x4
    | ret rv => exact .mk q4 (.ret rv) t4 x4
  · have h1 := fin f1 H1 h1
    refine W.done s1 H1 _ _ hJ1 t1.rel h1.1 fun h' n hk => ?_
    exact wpAny_execs_nil (SP.next h1.2 (t1.off (n := n) hI1 hown hbase (fun o e => W.notup _ _ o hJ1 e) hk) (x1.off (n := n) h0 hk))
theorem mapd_get {ds : List Dt} {i : Nat} {v : AV} (h : (ds.map AV.d)[i]? = some v) : ∃ d, v = .d d ∧ ds[i]? = some d := by
  rw [List.getElem?_map] at h
  obtain ⟨d, h1, h2⟩ := Option.map_eq_some_iff.mp h
  exact ⟨d, h2.symm, h1⟩
theorem lit_no {h : Heap} {src : Addr} {i : Nat} (hJ : h.IsListIter I src i) (o : Obj) (e : h.get? I = some o) : o.cls ≠ .type "tuple" := fun hc => by
  obtain ⟨o', e', hc', _⟩ := hJ
  rw [e] at e'; cases e'; rw [hc] at hc'; exact it_ne hc'
theorem tit_no {h : Heap} {src : Addr} {i : Nat} (hJ : h.IsTupleIter I src i) (o : Obj) (e : h.get? I = some o) : o.cls ≠ .type "tuple" := fun hc => by
  obtain ⟨o', e', hc', _⟩ := hJ
  rw [e] at e'; cases e'; rw [hc] at hc'; exact it_ne hc'
theorem past {h : Heap} {xs : List Value} {ds : List Dt} (r : DtAll h xs ds) : xs.toArray[(ds.map AV.d).length]? = none := by rw [List.length_map, ← r.length]; simp
theorem itr_list {src : Addr} {ds : List Dt} {chk : AH → Prop} (hh : A.handled = none) (rd : ∀ (H : AH) (h : Heap), Rel c H h → chk H → ∃ xs : List Value, h.IsList src xs.toArray ∧ DtAll h xs ds) : Itr c A I (ds.map AV.d) chk (fun i h => h.IsListIter I src i) where
  frame := fun i h h' hJ hk _ => hJ.at fun o e => hk o e
  notup := fun i h o hJ e => lit_no hJ o e
  live := fun i h hJ => let ⟨o, e, _⟩ := hJ; ⟨o, e⟩
  item := fun i v s H Q E hv hJ R hc hQ => by
    obtain ⟨d, rfl, hd⟩ := mapd_get hv
    obtain ⟨vs, g1, g2⟩ := rd H _ R hc
    obtain ⟨y, hy, ry⟩ := g2.get hd
    exact wpAny_pyNext_list_item hJ g1 (x := y) (by simpa using hy) fun h' hit' hs' => hQ y h' s.toks (DtIn.keep (TupKeep.off (lit_no hJ) hs'.extBut) ry) hit' hs'.extBut
  done := fun s H Q E hJ R hc hQ => by
    obtain ⟨vs, g1, g2⟩ := rd H _ R hc
    exact wpAny_pyNext_list_end hh hJ g1 (past g2) fun h' he' => hQ h' s.toks he'
  self := fun _ _ _ _ hJ hQ => wpAny_pyIter_listiter hJ hQ
theorem itr_tuple {src : Addr} {ds : List Dt} (hh : A.handled = none) : Itr c A I (ds.map AV.d) (fun _ => True) (fun i h => h.IsTupleIter I src i ∧ ∃ xs, TupO h src xs ∧ DtAll h xs ds) where
  frame := fun i h h' hJ hk tk => ⟨hJ.1.at fun o e => hk o e, let ⟨xs, h1, h2⟩ := hJ.2; ⟨xs, tk.tup h1, h2.keep tk⟩⟩
  notup := fun i h o hJ e => tit_no hJ.1 o e
  live := fun i h hJ => let ⟨⟨o, e, _⟩, _⟩ := hJ; ⟨o, e⟩
  item := fun i v s H Q E hv hJ R hc hQ => by
    obtain ⟨d, rfl, hd⟩ := mapd_get hv
    obtain ⟨hit, xs, h1, h2⟩ := hJ
    obtain ⟨y, hy, ry⟩ := h2.get hd
    refine wpAny_pyNext_tuple_item hit h1.is (x := y) (by simpa using hy) fun h' hit' hs' => ?_
    have tk : TupKeep s.heap h' := TupKeep.off (tit_no hit) hs'.extBut
    exact hQ y h' s.toks (DtIn.keep tk ry) ⟨hit', xs, tk.tup h1, h2.keep tk⟩ hs'.extBut
  done := fun s H Q E hJ R hc hQ => by
    obtain ⟨hit, xs, h1, h2⟩ := hJ
    exact wpAny_pyNext_tuple_end hh hit h1.is (past h2) fun h' he' => hQ h' s.toks he'
  self := fun _ _ _ _ hJ hQ => wpAny_pyIter_tupleiter hJ.1 hQ
theorem itr_range {F : Nat → Int} {c' : Int} {n : Nat} (hF : ∀ i, F (i + 1) = F i + c') (hh : A.handled = none) : Itr c A I ((List.range n).map fun (i : Nat) => AV.d (.int (F i))) (fun _ => True) (fun i h => IsRangeIter h I (F i) ((n : Int) - (i : Nat)) c') where
  frame := fun i h h' hJ hk _ => hk _ hJ
  notup := fun i h o hJ e hc => by rw [hJ] at e; cases e; exact it_ne hc.symm
  live := fun i h hJ => ⟨_, hJ⟩
  item := fun i v s H Q E hv hJ R hc hQ => by
    have hi : i < n := by
      have := (List.getElem?_eq_some_iff.mp hv).1
      rwa [List.length_map, List.length_range] at this
    rw [List.getElem?_map, List.getElem?_range hi] at hv
    cases hv
    refine wpAny_pyNext_range_item hJ (by omega) fun h' hit' hs' => hQ _ h' _ (DtIn.int _ _) ?_ hs'.extBut
    have e2 : (n : Int) - ((i + 1 : Nat) : Int) = (n : Int) - (i : Int) - 1 := by omega
    rw [hF, e2]; exact hit'
  done := fun s H Q E hJ R hc hQ => by
    refine wpAny_pyNext_range_end hh hJ ?_ fun h' he' => hQ h' s.toks he'
    rw [List.length_map, List.length_range]; omega
  self := fun _ _ _ _ hJ hQ => wpAny_pyIter_rangeiter hJ hQ
end
theorem rng_lt {n : Nat} (hn : n < 1000000) : (n : Int) < 2 ^ 62 := Int.lt_trans (Int.ofNat_lt.mpr hn) (by decide)
theorem rangeSize_down (n : Nat) : Builtin.Range.rangeSize ((n : Int) - 1) (-1) (-1) = n := by
  unfold Builtin.Range.rangeSize
  rw [if_neg (by decide)]
  cases n with
  | zero => rfl
  | succ n =>
    rw [if_pos (Int.lt_sub_right_of_add_lt (Int.ofNat_lt.mpr (Nat.succ_pos n) : (0 : Int) < ((n + 1 : Nat) : Int))), Int.neg_neg, Int.ediv_one, Int.sub_neg, Int.sub_add_cancel, Int.sub_add_cancel]
theorem small_down {n : Nat} (hn : n < 1000000) : Builtin.Range.small ((n : Int) - 1) (-1) (-1) = true := by
  unfold Builtin.Range.small
  rw [rangeSize_down]
  simp only [Builtin.Range.rangeFitsLong, Bool.and_eq_true, Bool.or_eq_true, decide_eq_true_eq, beq_iff_eq, show ¬ ((-1 : Int) > 0) by decide, if_false]
  have h0 := Int.natCast_nonneg n
  have h1 : (n : Int) < 2 ^ 63 := Int.lt_trans (rng_lt hn) (by decide)
  exact ⟨⟨⟨⟨⟨Int.le_sub_one_of_lt (Int.lt_of_lt_of_le (by decide : -2 ^ 63 < (0 : Int)) h0), Int.lt_trans (Int.sub_lt_self _ (by decide)) h1⟩, by decide, by decide⟩, by decide, by decide⟩, Int.le_trans (by decide : -2 ^ 63 ≤ (0 : Int)) h0, h1⟩, .inr ⟨by decide, by decide⟩⟩
inductive RangeAt (h : Heap) (r : Addr) : List AV → Prop
  | up {n : Nat} {u v w : Tok} (hn : n < 1000000) (e : IsRange h r 0 n 1 u v w) : RangeAt h r ((List.range n).map fun (i : Nat) => AV.d (.int (i : Int)))
  | down {n : Nat} {u v w : Tok} (hn : n < 1000000) (e : IsRange h r ((n : Int) - 1) (-1) (-1) u v w) : RangeAt h r ((List.range n).map fun (i : Nat) => AV.d (.int ((n : Int) - 1 - (i : Int))))
section
variable {c : Cx} {C : Oracle} {env : Env} {k : Nat} {A : Around} {f f' : Frm} {H H1 : AH} {s s1 : Shared} {Q : SPost} {I : Addr}
theorem range_call {xs : List Value} {vs : List AV} {P : List AV → AH → Prop} {R : Value → Shared → Prop} (hq : rngQ P vs H) (rv : VAll c s.heap xs vs) (t : St c env f H s)
    (fin : ∀ r ws s1, P ws H → RangeAt s1.heap r ws → St c env f H s1 → Ext (ownL env) H s H s1 → R (.ref r) s1) : wpAny (model c.prog c.w) A (call (.type "range") xs) R NoE s := by
  cases hq with
  | @up n _ hn hq =>
    cases rv with | cons r1 rv => cases rv with | nil =>
    obtain ⟨u, rfl⟩ := DtIn.intEq r1
    refine call_range_1 ?_
    obtain ⟨t2, k2⟩ := t.grow (n := s.toks + 1 + 1) (push_keeps { cls := .type "range", data := .fields #[.int 0 s.toks, .int n u, .int 1 (s.toks + 1)] })
    exact fin _ _ _ hq (.up hn (Heap.get?_push_size _ rfl)) t2 k2
  | @down n _ hn hq =>
    cases rv with | cons r1 rv => cases rv with | cons r2 rv => cases rv with | cons r3 rv => cases rv with | nil =>
    obtain ⟨u, rfl⟩ := DtIn.intEq r1
    obtain ⟨v, rfl⟩ := DtIn.intEq r2
    obtain ⟨w, rfl⟩ := DtIn.intEq r3
    refine call_range_3 (by decide) ?_ (.inl (PyProof.noPylong_small (by decide)))
    obtain ⟨t2, k2⟩ := t.grow (n := s.toks) (push_keeps { cls := .type "range", data := .fields #[.int ((n : Int) - 1) u, .int (-1) v, .int (-1) w] })
    exact fin _ _ _ hq (.down hn (Heap.get?_push_size _ rfl)) t2 k2
theorem range_rule {x : Str} {es : List Expr} {is : List IE} {p pos : Pos} {P : List AV → AH → Prop} {R : Value → Shared → Prop} (B : BiOK c env x (.type "range")) (l : SndL c C env k es is) (g : GoodA k A) (t : St c env f H s)
    (h : Wes C is f H (rngQ P)) (fin : ∀ r vs H1 s1, P vs H1 → RangeAt s1.heap r vs → St c env f H1 s1 → Ext (ownL env) H s H1 s1 → R (.ref r) s1) :
    wpAny (model c.prog c.w) A (eval (.Call (.Name x p) es [] pos) env) R NoE s := by
  refine Call_ (bi_name B t ?_) rfl
  refine PySem.callWith_type l.plain ?_
  have body : wpAny (model c.prog c.w) A (spliced (backTo pos (starEach es env))) (fun xs s1 => wpAny (model c.prog c.w) A (call (.type "range") xs) R NoE s1) NoE s := l.go g t h fun xs vs H1 s1 hq rv _ t1 k1 =>
    range_call hq rv t1 fun r ws s2 hq hr t2 k2 => fin r ws H1 s2 hq hr t2 (k1.trans k2)
  cases l with
  | nil => cases (h : rngQ P [] H)
  | cons hs he l =>
    rw [hs] at body ⊢
    exact PySem.Calls.evalArgs_plain body
theorem range_iter {R : Value → Shared → Prop} {r : Addr} {vs : List AV} (g : GoodA k A) (hr : RangeAt s.heap r vs)
    (q : ∀ h' J, (∀ b o, s.heap.get? b = some o → h'.get? b = some o) → Itr c A s.heap.objs.size vs (fun _ => True) J → J 0 h' → R (.ref s.heap.objs.size) { s with heap := h' }) :
    wpAny (model c.prog c.w) A (pyIter (.ref r)) R NoE s := by
  cases hr with
  | @up n _ _ _ hn e =>
    refine wpAny_pyIter_range e (small_one (by decide) (by decide) (Int.le_trans (by decide : -(2 ^ 62) ≤ (0 : Int)) (Int.natCast_nonneg n)) (rng_lt hn)) (q _ _ (push_keeps _) (itr_range (c' := 1) (n := n) (fun i => Int.natCast_succ i) g.hd) ?_)
    rw [rangeSize_nat, Int.sub_zero, Int.toNat_natCast, show (n : Int) - ((0 : Nat) : Int) = n from Int.sub_zero _]
    exact Heap.get?_push_size s.heap rfl
  | @down n _ _ _ hn e =>
    refine wpAny_pyIter_range e (small_down hn) (q _ _ (push_keeps _) (itr_range (F := fun (i : Nat) => (n : Int) - 1 - (i : Int)) (c' := -1) (n := n) (fun i => by omega) g.hd) ?_)
    show IsRangeIter _ _ ((n : Int) - 1 - ((0 : Nat) : Int)) _ _
    rw [rangeSize_down, show (n : Int) - ((0 : Nat) : Int) = n from Int.sub_zero _, show (n : Int) - 1 - ((0 : Nat) : Int) = n - 1 from Int.sub_zero _]
    exact Heap.get?_push_size s.heap rfl
theorem ownB_fresh (t : St c env f H s) (hI : s.heap.get? I = none) : ¬ ownB env I := by
  rintro (rfl | ⟨x, hx⟩)
  · obtain ⟨m, ⟨o, es, ep, ho, _⟩, _⟩ := t.fr.vars
    rw [ho] at hI; cases hI
  · obtain ⟨v, o, ho, _⟩ := t.fr.cells x I hx
    rw [ho] at hI; cases hI
theorem fresh_before {own : Addr → Prop} (x : Ext own H s H1 s1) (hI : s1.heap.get? I = none) : s.heap.get? I = none := by
  cases e : s.heap.get? I with
  | none => rfl
  | some o =>
    have := x.live _ (by rw [e]; rfl)
    rw [hI] at this; cases this
theorem sndX_forR {x y : Str} {px p pos fpos : Pos} {es : List Expr} {is : List IE} {body : List Stmt} {ib : List IS} (B : BiOK c env x (.type "range")) (l : SndL c C env k es is) (hy : StoOK env y) (hb : SndXs c C env body ib k) :
    SndX c C env (.For (.Name y px) (.Call (.Name x p) es [] pos) body [] fpos) (.forR y is ib) k := by
  intro A f H Q s g t h
  refine wpAny_For (range_rule B l g t (h : Wes C is f H (rngQ fun vs H1 => ForL (fun _ => True) (fun f' H' Q' => Wxs C ib f' H' Q') (.one y) vs f H1 Q)) fun r vs H1 s1 hq hr t1 k1 => range_iter g hr fun h' J hk W hJ => ?_) fun _ => rfl
  obtain ⟨t2, k2⟩ := t1.grow (n := s1.toks) hk
  have hI : s1.heap.get? s1.heap.objs.size = none := next_none _
  exact loop_rule g (.one hy) hb W (fun _ => rfl) (fresh_before k1 hI) t1.big (ownB_fresh t1 hI) t2 (k1.trans k2).own hJ t1.rel.next hq
def LetOK (c : Cx) (A : Around) (target : Expr) (tg : Tg) (I : Addr) (J : Nat → Heap → Prop) : Prop :=
  ∀ i y v (s : Shared) (f f' : Frm) (Q : Unit → Shared → Prop), VRep c s.heap y v → BindT tg v f f' → J i s.heap → Q () s → wpAny (model c.prog c.w) A (letOwnedTupleGo target (.ref I) y) Q NoE s
theorem let_one {target : Expr} {x : Str} {env' : Env} {J : Nat → Heap → Prop} (hT : TgL env' target (.one x)) : LetOK c A target (.one x) I J := fun i y v s f f' Q _ _ _ hQ => by
  cases hT with
  | one _ => exact wpAny_pure hQ
abbrev LetF (c : Cx) (A : Around) (v : AV) (I : Addr) (J : Nat → Heap → Prop) : Prop := ∀ (env' : Env) (target : Expr) (tg : Tg), TgL env' target tg → TgOk tg v → LetOK c A target tg I J
theorem let_nolst {v : AV} {J : Nat → Heap → Prop} (h : ∀ a, v ≠ .r a) : LetF c A v I J := fun env' target tg hT ho => by
  cases ho with
  | one => exact let_one hT
  | many => exact absurd rfl (h _)
theorem let_lst {v : AV} {src : Addr} : LetF c A v I (fun i h => h.IsListIter I src i) := fun env' target tg hT ho => by
  cases ho with
  | one => exact let_one hT
  | many =>
    intro i y u s f f' Q ry hb hJ hQ
    cases hb with
    | many hb =>
      obtain ⟨a, vs, rfl, _⟩ := DtIn.tupEq ry
      cases hT with
      | many _ => exact wpAny_letOwnedTupleGo_listiter hJ hQ
theorem items_iter {R : Value → Shared → Prop} {a : Value} {v : AV} {ds : List Dt} {chk : AH → Prop} (g : GoodA k A) (hv : ItemsV H v ds chk) (ra : VRep c s.heap a v) (t : St c env f H s)
    (q : ∀ h' J, (∀ b o, s.heap.get? b = some o → h'.get? b = some o) → Itr c A s.heap.objs.size (ds.map AV.d) chk J → LetF c A v s.heap.objs.size J → J 0 h' → R (.ref s.heap.objs.size) { s with heap := h' }) :
    wpAny (model c.prog c.w) A (pyIter a) R NoE s := by
  cases hv with
  | tup =>
    obtain ⟨p, xs, rfl, ht, hd⟩ := DtIn.tupEq ra
    refine wpAny_pyIter_tuple ht.is (q _ _ (push_keeps _) (itr_tuple (src := p) g.hd) (let_nolst fun _ h => nomatch h) ?_)
    obtain ⟨t1, k1⟩ := t.grow (n := s.toks) (push_keeps { cls := .type "tuple_iterator", data := .fields #[.ref p, .int 0 0] })
    exact ⟨⟨_, Heap.get?_push_size _ rfl, rfl, rfl⟩, xs, k1.tup.tup ht, hd.keep k1.tup⟩
  | lst e =>
    obtain rfl : a = .ref _ := ra
    obtain ⟨xs, n, g1, g2, g3⟩ := t.rel.list e
    exact wpAny_pyIter_list (isList_of g1) (q _ _ (push_keeps _) (itr_list g.hd fun H' h' R' e' => let ⟨ys, m, w1, w2, _⟩ := R'.objs _ _ e'; ⟨ys, isList_of w1, w2⟩) let_lst ⟨_, Heap.get?_push_size _ rfl, rfl, rfl⟩)
  | fro =>
    obtain ⟨p, xs, rfl, hl, hi, _⟩ := ra
    exact wpAny_pyIter_list (hl.at fun o e => t.rel.keep _ o e) (q _ _ (push_keeps _) (itr_list g.hd fun H' h' R' e' => ⟨xs, hl.at fun o e => R'.keep _ o e, ints_dts hi⟩) let_lst ⟨_, Heap.get?_push_size _ rfl, rfl, rfl⟩)
theorem sndX_forE {y : Str} {px fpos : Pos} {iter : Expr} {ii : IE} {body : List Stmt} {ib : List IS} (h1 : SndO c C env iter ii k) (hs : ∀ x, foldedSetIterable iter env x = pure x) (hy : StoOK env y) (hb : SndXs c C env body ib k) :
    SndX c C env (.For (.Name y px) iter body [] fpos) (.forE (.one y) ii ib) k := by
  intro A f H Q s g t h
  refine wpAny_For (h1.go g t (h : We C ii f H (itemsQ fun _ ds chk H1 => ForL chk (fun f' H' Q' => Wxs C ib f' H' Q') (.one y) (ds.map .d) f H1 Q)) fun a v H1 s1 hq ra t1 k1 => ?_) hs
  cases hq with
  | mk hd hq =>
  refine items_iter g hd ra t1 fun h' J hk W _ hJ => ?_
  obtain ⟨t2, k2⟩ := t1.grow (n := s1.toks) hk
  have hI : s1.heap.get? s1.heap.objs.size = none := next_none _
  exact loop_rule g (.one hy) hb W (fun _ => rfl) (fresh_before k1 hI) t1.big (ownB_fresh t1 hI) t2 (k1.trans k2).own hJ t1.rel.next hq
end
end
section
open PySem PySem.W PyProof.Rows
set_option backward.match.sparseCases true
noncomputable def tgNames : Tg → List Str
  | .one x => [x]
  | .many xs => xs
section
variable {c : Cx} {C : Oracle} {env : Env} {k : Nat} {A : Around} {f f' : Frm} {H H1 : AH} {s s1 : Shared} {I : Addr}
theorem St.fewer (t : St c env f' H s) (h : ∀ x v, f x = some v → f' x = some v) : St c env f H s :=
  ⟨t.rel, t.fr.ok, let ⟨m, h1, h2⟩ := t.fr.vars; ⟨m, h1, fun x v e => h2 x v (h x v e)⟩, t.fr.cells, t.fr.off, t.fr.coff⟩
theorem put_ne {x y : Str} {v : AV} (h : x ≠ y) : f.put y v x = f x := if_neg h
theorem puts_more {xs : List Str} {ds : List Dt} {f f' : Frm} (h : Puts xs ds f f') {x : Str} (hx : x ∉ xs) : f' x = f x := by
  induction h with
  | nil => rfl
  | cons _ ih => exact (ih fun z => hx (List.mem_cons_of_mem _ z)).trans (put_ne fun z => hx (by rw [z]; exact List.mem_cons_self))
theorem bindT_more {tg : Tg} {v : AV} (hb : BindT tg v f f') (hn : ∀ x ∈ tgNames tg, f x = none) (x : Str) (u : AV) (hx : f x = some u) : f' x = some u := by
  have hx' : x ∉ tgNames tg := fun z => by rw [hn x z] at hx; cases hx
  cases hb with
  | one => exact (put_ne fun z => hx' (by rw [z]; exact List.mem_cons_self)).trans hx
  | many hb => exact (puts_more hb hx').trans hx
theorem St.adopt {D : Addr} {o : AO} (t : St c env f H s) (hD : H D = none) (ho : ¬ ownB env D) (hb : c.hB.objs.size ≤ D) (r : ORep c s.heap D o) : St c env f (H.set D o) s := by
  refine ⟨⟨t.rel.keep, fun b hb' => ?_, fun b o' e => ?_⟩, t.fr.ok, t.fr.vars, t.fr.cells, ?_, fun x b e => ?_⟩
  · by_cases e : b = D
    · subst e; exact hb
    · rw [show H.set D o b = H b from if_neg e] at hb'; exact t.rel.fresh b hb'
  · by_cases e1 : b = D
    · subst e1
      rw [show H.set b o b = some o from if_pos rfl] at e; cases e; exact r
    · rw [show H.set D o b = H b from if_neg e1] at e; exact t.rel.objs b o' e
  · exact (if_neg fun z => ho (.inl z.symm)).trans t.fr.off
  · exact (if_neg fun z => ho (.inr ⟨x, by rw [← z]; exact e⟩)).trans (t.fr.coff x b e)
theorem Ext.adopt {own : Addr → Prop} {H0 : AH} {s0 : Shared} {D : Addr} {o : AO} (x : Ext own H0 s0 H s) (hD : s0.heap.get? D = none) : Ext own H0 s0 (H.set D o) s := by
  refine ⟨x.keep, x.live, fun b hb => ?_, x.tup, x.gens, x.os⟩
  by_cases e : b = D
  · subst e; exact .inr hD
  · rw [show H.set D o b = H b from if_neg e] at hb; exact x.dom b hb
theorem Ext.none_of {own : Addr → Prop} {H0 : AH} {s0 : Shared} (x : Ext own H0 s0 H s) (h : ∀ b, own b → s0.heap.get? b = none) : Ext (fun _ => False) H0 s0 H s :=
  ⟨fun b o e n1 _ => x.keep b o e n1 (fun z => by rw [h b z] at e; cases e), x.live, x.dom, x.tup, x.gens, x.os⟩
end
noncomputable def closS (cells : List (Str × Addr)) (p : Str × NameKind) (cs : List (Str × Addr)) : List (Str × Addr) := if p.2 == .free then (match cells.lookup p.1 with | some a => (p.1, a) :: cs | none => cs) else cs
noncomputable def closL (cells : List (Str × Addr)) : List (Str × NameKind) → List (Str × Addr) → List (Str × Addr)
  | [], cs => cs
  | p :: r, cs => closL cells r (closS cells p cs)
theorem closS_free {cells : List (Str × Addr)} {n : Str} {a : Addr} {cs : List (Str × Addr)} (h : cells.lookup n = some a) : closS cells (n, .free) cs = (n, a) :: cs := by
  unfold closS
  rw [if_pos (show ((n, NameKind.free).2 == NameKind.free) = true from rfl), h]
theorem closS_else {cells : List (Str × Addr)} {p : Str × NameKind} {cs : List (Str × Addr)} (h : ¬ (p.2 == NameKind.free) = true) : closS cells p cs = cs := if_neg h
inductive ClosR (cells : List (Str × Addr)) (p : Str × NameKind) (cs : List (Str × Addr)) : List (Str × Addr) → Prop
  | keep : ClosR cells p cs cs
  | add {a : Addr} (h : cells.lookup p.1 = some a) : ClosR cells p cs ((p.1, a) :: cs)
theorem closS_r (cells : List (Str × Addr)) (p : Str × NameKind) (cs : List (Str × Addr)) : ClosR cells p cs (closS cells p cs) := by
  unfold closS
  by_cases h : (p.2 == NameKind.free) = true
  · rw [if_pos h]
    cases e : cells.lookup p.1 with
    | none => exact .keep
    | some a => exact .add e
  · rw [if_neg h]; exact .keep
theorem closure_go {env : Env} {names : List (Str × NameKind)} : ∀ {cs : List (Str × Addr)}, (∀ x, (x, NameKind.free) ∈ names → ∃ a, env.cells.lookup x = some a) →
    (forIn names cs fun p cs => (if p.2 == NameKind.free then (do let a ← PySem.cellOf env p.1; pure (ForInStep.yield ((p.1, a) :: cs))) else pure (ForInStep.yield cs) : Sem _)) = pure (closL env.cells names cs) := by
  induction names with
  | nil => intro cs _; rfl
  | cons p r ih =>
    intro cs h
    rw [List.forIn_cons]
    by_cases hk : (p.2 == NameKind.free) = true
    · obtain ⟨n, k⟩ := p
      obtain rfl : k = NameKind.free := eq_of_beq hk
      obtain ⟨a, ha⟩ := h n List.mem_cons_self
      have hc : PySem.cellOf env n = pure a := by unfold PySem.cellOf; rw [ha]
      rw [if_pos hk, hc, pure_bind, pure_bind]
      show forIn r ((n, a) :: cs) _ = pure (closL env.cells r (closS env.cells (n, .free) cs))
      rw [closS_free ha]
      exact ih fun x hx => h x (List.mem_cons_of_mem _ hx)
    · rw [if_neg hk, pure_bind]
      show forIn r cs _ = pure (closL env.cells r (closS env.cells p cs))
      rw [closS_else hk]
      exact ih fun x hx => h x (List.mem_cons_of_mem _ hx)
theorem closure_ok {scope : Scope} {env : Env} (h : ∀ x, (x, NameKind.free) ∈ scope.names → ∃ a, env.cells.lookup x = some a) : closureFor scope env = pure (closL env.cells scope.names []) := by
  simp only [closureFor]
  rw [closure_go h]
  rfl
theorem closL_mem {cells : List (Str × Addr)} {x : Str} {a : Addr} {names : List (Str × NameKind)} : ∀ {cs : List (Str × Addr)}, (x, a) ∈ closL cells names cs → (x, a) ∈ cs ∨ cells.lookup x = some a := by
  induction names with
  | nil => intro cs h; exact .inl h
  | cons p r ih =>
    intro cs h
    rcases ih (show (x, a) ∈ closL cells r (closS cells p cs) from h) with h | h
    · generalize closS cells p cs = cs', closS_r cells p cs = w at h
      cases w with
      | keep => exact .inl h
      | add e =>
        rcases List.mem_cons.mp h with h | h
        · cases h; exact .inr e
        · exact .inl h
    · exact .inr h
theorem closL_sup {cells : List (Str × Addr)} {q : Str × Addr} {names : List (Str × NameKind)} : ∀ {cs : List (Str × Addr)}, q ∈ cs → q ∈ closL cells names cs := by
  induction names with
  | nil => intro cs h; exact h
  | cons p r ih =>
    intro cs h
    refine ih (cs := closS cells p cs) ?_
    generalize closS cells p cs = cs', closS_r cells p cs = w
    cases w with
    | keep => exact h
    | add e => exact List.mem_cons_of_mem _ h
theorem closL_has {cells : List (Str × Addr)} {x : Str} {a : Addr} (ha : cells.lookup x = some a) {names : List (Str × NameKind)} : ∀ {cs : List (Str × Addr)}, (x, NameKind.free) ∈ names → (x, a) ∈ closL cells names cs := by
  induction names with
  | nil => intro cs h; cases h
  | cons p r ih =>
    intro cs h
    rcases List.mem_cons.mp h with h | h
    · cases h
      exact closL_sup (cs := closS cells (x, .free) cs) (by rw [closS_free ha]; exact List.mem_cons_self)
    · exact ih (cs := closS cells p cs) h
theorem lookup_mem {α : Type} {x : Str} {a : α} {l : List (Str × α)} (h : l.lookup x = some a) : (x, a) ∈ l := by
  induction l with
  | nil => cases h
  | cons p r ih =>
    obtain ⟨n, b⟩ := p
    rw [List.lookup_cons] at h
    cases e : x == n with
    | true =>
      rw [e] at h
      cases h
      obtain rfl : x = n := eq_of_beq e
      exact List.mem_cons_self
    | false => rw [e] at h; exact List.mem_cons_of_mem _ (ih h)
theorem mem_lookup {α : Type} {x : Str} {a : α} {l : List (Str × α)} (h : (x, a) ∈ l) : ∃ b, l.lookup x = some b := by
  induction l with
  | nil => cases h
  | cons p r ih =>
    obtain ⟨n, b⟩ := p
    rw [List.lookup_cons]
    cases e : x == n with
    | true => exact ⟨b, rfl⟩
    | false =>
      rcases List.mem_cons.mp h with h | h
      · cases h; rw [beq_self_eq_true] at e; cases e
      · exact ih h
end
section
open PySem PySem.W PyProof.Rows
section
variable {c : Cx} {C : Oracle} {env : Env} {k : Nat} {A : Around} {f f' : Frm} {H H1 : AH} {s s1 : Shared} {I D : Addr} {R : Result → Shared → Prop}
theorem codeAny_compLoop_own {elt target iter : Expr} {scope : Scope} {pos : Pos} {it acc : Value} {env : Env} (Inv : Nat → Shared → Prop)
    (turn : ∀ n s, Inv n s → wpAny (model c.prog c.w) A (pyNext it) (fun r s₁ => match r with
      | none => R (.ok .next) s₁
      | some v => wpAny (model c.prog c.w) A (letOwnedTupleGo target it v) (fun _ s₁' => wpAny (model c.prog c.w) A (assign target env v) (fun _ s₂ => wpAny (model c.prog c.w) A (eval elt env) (fun x s₃ =>
          wpAny (model c.prog c.w) A (call (.builtin "list.append") [acc, x]) (fun _ s₄ => ∃ m, m < n ∧ Inv m s₄) NoE s₃) NoE s₂) NoE s₁') NoE s₁) NoE s)
    (n : Nat) (h : Inv n s) :
    codeAny (model c.prog c.w) A (.compLoop (.ListComp elt [⟨target, iter, [], 0⟩] scope pos) 0 it acc env) R s := by
  refine codeAny_loop rfl Inv (fun n s hI => ?_) n h
  show wpAny _ _ ((compTurn (.ListComp elt [⟨target, iter, [], 0⟩] scope pos) 0 it acc env).onRaise (fun x => do noteFrame x env; theTreesLotGoes x)) _ _ s
  refine wpAny_noted ?_
  rw [compTurn_list1]
  refine wpAny_bind (wpAny_standAt (wpAny_bind (wpAny_mono (turn n s hI) (fun r s₁ h₁ => ?_) notedBy_no)))
  cases r with
  | none => exact wpAny_pure h₁
  | some v =>
    refine wpAny_bind (wpAny_mono h₁ (fun _ s₁' h₁' => ?_) notedBy_no)
    exact wpAny_bind (wpAny_mono h₁' (fun _ s₂ h₂ => wpAny_bind (wpAny_bind (wpAny_mono h₂ (fun x s₃ h₃ => wpAny_bind (wpAny_mono h₃
      (fun _ s₄ h₄ => wpAny_pure (wpAny_pure ⟨rfl, h₄⟩)) notedBy_no)) notedBy_no))) notedBy_no)
inductive LcS (c : Cx) (cenv : Env) (f : Frm) (H1 : AH) (s1 : Shared) (I D : Addr) (N : Nat) (Inv : Nat → List Dt → AH → Prop) (J : Nat → Heap → Prop) (n : Nat) (s' : Shared) : Prop
  | mk {i : Nat} {H' : AH} {acc : List Dt} {xs : List Value} {m : Nat} (hi : i ≤ N) (hn : n = N - i) (q : Inv i acc H') (t : St c cenv f H' s') (x : Ext (fun _ => False) H1 s1 H' s') (j : J i s'.heap) (nI : H' I = none) (nD : H' D = none)
    (o : s'.heap.get? D = some (listOf (List.toArray xs) m)) (r : DtAll s'.heap xs acc) (hl : acc.length ≤ lim) : LcS c cenv f H1 s1 I D N Inv J n s'
theorem comp_core {elt target iter : Expr} {scope : Scope} {pos : Pos} {cenv : Env} {ie : IE} {tg : Tg} {vs : List AV} {chk : AH → Prop} {J : Nat → Heap → Prop} {Qf : List Dt → AH → Prop} (g : GoodA k A) (W : Itr c A I vs chk J)
    (hT : TgL cenv target tg) (he : SndO c C cenv elt ie k) (hlet : LetOK c A target tg I J)
    (hno : ∀ x ∈ tgNames tg, f x = none) (hI : s1.heap.get? I = none) (hD : s1.heap.get? D = none) (hC : s1.heap.get? cenv.locals = none) (hID : I ≠ D) (hIo : ¬ ownB cenv I) (hDo : ¬ ownB cenv D)
    (hbI : c.hB.objs.size ≤ I) (hbD : c.hB.objs.size ≤ D)
    (t : St c cenv f H s) (x : Ext (fun _ => False) H1 s1 H s) (hJ : J 0 s.heap) (nI : H I = none) (nD : H D = none) (oD : s.heap.get? D = some (listOf (#[] : Array Value) 0))
    (h : LcL chk (fun f' H' Q' => We C ie f' H' Q') tg f vs H Qf)
    (fin : ∀ H' s' ds xs n, Qf ds H' → St c cenv f H' s' → Ext (fun _ => False) H1 s1 H' s' → H' D = none → s'.heap.get? D = some (listOf (List.toArray xs) n) → DtAll s'.heap xs ds → ds.length ≤ lim → R (.ok .next) s') :
    codeAny (model c.prog c.w) A (.compLoop (.ListComp elt [⟨target, iter, [], 0⟩] scope pos) 0 (.ref I) (.ref D) cenv) R s := by
  have ext : ∀ {H2 H3 : AH} {s2 s3 : Shared}, Ext (fun _ => False) H1 s1 H2 s2 → Ext (ownL cenv) H2 s2 H3 s3 → Ext (fun _ => False) H1 s1 H3 s3 := fun x y =>
    ((x.weaken fun _ z => z.elim).trans y).none_of fun b e => by rw [e]; exact hC
  have hIL : ¬ ownL cenv I := fun z => hIo (.inl z)
  have hDL : ¬ ownL cenv D := fun z => hDo (.inl z)
  cases h with
  | mk Inv i0 step done =>
  refine codeAny_compLoop_own (LcS c cenv f H1 s1 I D vs.length Inv J) (fun n s2 hS => ?_) _ (.mk (xs := []) (Nat.zero_le _) rfl i0 t x hJ nI nD oD .nil (Nat.zero_le _))
  cases hS with
  | @mk i H2 acc xs m hi hn h2 t2 x2 hJ2 nI2 nD2 oD2 rD2 hl2 =>
  subst hn
  rcases Nat.lt_or_eq_of_le hi with hlt | rfl
  · obtain ⟨hchk, f3, hb3, h3⟩ := step i acc H2 _ (List.getElem?_eq_getElem hlt) h2
    refine W.item i _ s2 H2 _ _ (List.getElem?_eq_getElem hlt) hJ2 t2.rel hchk fun y h' n ry hJ' hk => ?_
    have t3 := t2.off (n := n) nI2 hIo hbI (fun o e => W.notup _ _ o hJ2 e) hk
    have x3 := x2.off (n := n) hI hk
    have tk3 : TupKeep s2.heap h' := TupKeep.off (fun o e => W.notup _ _ o hJ2 e) hk
    have oD3 : h'.get? D = some (listOf (List.toArray xs) m) := hk D _ (Ne.symm hID) oD2
    refine hlet (i + 1) y _ { s2 with heap := h', toks := n } f f3 _ ry hb3 hJ' (assignL_rule g hT hb3 t3 ry fun s4 t4 k4 => ?_)
    have hJ4 : J (i + 1) s4.heap := W.frame _ _ _ hJ' (fun o e => k4.keep I o e nI2 hIL) k4.tup
    have oD4 := k4.keep D _ oD3 nD2 hDL
    refine he.go g t4 h3 fun z v H5 s5 h5 rz t5 k5 => ?_
    cases h5 with
    | @mk d _ hl5 h5 =>
    have hJ5 : J (i + 1) s5.heap := W.frame _ _ _ hJ4 (fun o e => k5.keep I o e nI2 hIL) k5.tup
    have oD5 := k5.keep D _ oD4 nD2 hDL
    have nD5 : H5 D = none := k5.out oD4 nD2
    have nI5 : H5 I = none := by
      obtain ⟨o, ho⟩ := W.live _ _ hJ4
      exact k5.out ho nI2
    have rD5 : DtAll s5.heap xs acc := ((rD2.keep tk3).keep k4.tup).keep k5.tup
    have t5' := t5.fewer (bindT_more hb3 hno)
    have x5 := ext (ext x3 k4) k5
    refine append_at oD5 (fun h6 hs6 ho6 => ?_) (by rw [List.size_toArray, rD5.length]; exact Nat.le_trans hl2 (by decide))
    have ntD : ∀ o, s5.heap.get? D = some o → o.cls ≠ .type "tuple" := fun o e hc => by rw [oD5] at e; cases e; exact it_ne hc.symm
    have tk6 : TupKeep s5.heap h6 := TupKeep.off ntD hs6.extBut
    exact ⟨_, less_turn hlt, .mk (xs := xs ++ [z]) hlt rfl h5 (t5'.off (n := s5.toks) nD5 hDo hbD ntD hs6.extBut) (x5.off (n := s5.toks) hD hs6.extBut)
      (W.frame _ _ _ hJ5 (fun o e => hs6.extBut I o hID e) tk6) nI5 nD5 (by simpa using ho6) ((rD5.keep tk6).append (.one (DtIn.keep tk6 rz))) (by rw [List.length_append]; exact hl5)⟩
  · have h2 := done acc H2 h2
    refine W.done s2 H2 _ _ hJ2 t2.rel h2.1 fun h' n hk => ?_
    have tk3 : TupKeep s2.heap h' := TupKeep.off (fun o e => W.notup _ _ o hJ2 e) hk
    exact fin H2 _ acc xs m h2.2 (t2.off (n := n) nI2 hIo hbI (fun o e => W.notup _ _ o hJ2 e) hk) (x2.off (n := n) hI hk) nD2 (hk D _ (Ne.symm hID) oD2) (rD2.keep tk3) hl2
end
structure CompOK (env : Env) (scope : Scope) (caps : List Str) : Prop where
  kind : scope.kind = .function
  nocell : ∀ y ∈ scope.names, y.2 ≠ .cell
  locals : ∀ x ∈ scope.names, x.2 = .local → scope.names.lookup x.1 = some .local
  free : ∀ x, (x, NameKind.free) ∈ scope.names → env.kindOf x = some .cell
  caps : ∀ x ∈ caps, (x, NameKind.free) ∈ scope.names ∧ (relabel scope env).names.lookup x = some .cell
theorem relabel_cell {scope : Scope} {env : Env} (hn : ∀ y ∈ scope.names, y.2 ≠ .cell) {x : Str} (h : (relabel scope env).names.lookup x = some .cell) : (x, NameKind.free) ∈ scope.names := by
  have := lookup_mem h
  obtain ⟨⟨n, k⟩, hm, he⟩ := List.mem_map.mp this
  dsimp only at he
  split at he
  · rename_i hc
    cases he
    simp only [Bool.and_eq_true, beq_iff_eq] at hc
    rw [← hc.1.1]; exact hm
  · cases he; exact absurd rfl (hn _ hm)
structure CompEnd (c : Cx) (H1 : AH) (s1 : Shared) (D Cl : Addr) (ds : List Dt) (H' : AH) (s' : Shared) : Prop where
  rel : Rel c H' s'.heap
  ext : Ext (fun _ => False) H1 s1 H' s'
  offC : H' Cl = none
  offD : H' D = none
  freshC : s1.heap.get? Cl = none
  freshD : s1.heap.get? D = none
  aboveC : c.hB.objs.size ≤ Cl
  aboveD : c.hB.objs.size ≤ D
  ne : D ≠ Cl
  obj : ORep c s'.heap D (.lst ds)
section
variable {c : Cx} {C : Oracle} {env : Env} {k : Nat} {A : Around} {f f' : Frm} {H H1 : AH} {s s1 : Shared} {I D : Addr} {R : Result → Shared → Prop}
theorem Ext.grow {own : Addr → Prop} {h' : Heap} {n : Nat} (hk : ∀ b o, s.heap.get? b = some o → h'.get? b = some o) : Ext own H s H { s with heap := h', toks := n } := by
  refine ⟨fun b o e _ _ => hk b o e, fun b hb => ?_, fun b hb => .inl hb, fun b o i m e _ _ => hk b o e, rfl, rfl⟩
  cases q : s.heap.get? b with
  | none => rw [q] at hb; cases hb
  | some o => show (h'.get? b).isSome = true; rw [hk b o q]; rfl
theorem comp_make {elt target iter : Expr} {scope : Scope} {pos : Pos} {ie : IE} {tg : Tg} {vs : List AV} {chk : AH → Prop} {J : Nat → Heap → Prop} {caps : List Str} {Qf : List Dt → AH → Prop} {h2 : Heap} {use : Option (Value → Sem Unit)} {QQ : Value → Shared → Prop}
    (g : GoodA k A) (O : CompOK env scope caps) (W : Itr c A s1.heap.objs.size vs chk J)
    (hT : ∀ cl Cl, TgL (compEnvC scope cl Cl env) target tg) (he : ∀ cl Cl, SndO c C (compEnvC scope cl Cl env) elt ie k)
    (hlet : LetOK c A target tg s1.heap.objs.size J)
    (hno : ∀ x ∈ tgNames tg, x ∉ caps) (t : St c env f H1 s1) (hk2 : ∀ b o, s1.heap.get? b = some o → h2.get? b = some o) (hJ : J 0 h2)
    (h : LcL chk (fun f' H' Q' => We C ie f' H' Q') tg (f.only caps) vs H1 Qf)
    (fin : ∀ D Cl ds H' s', Qf ds H' → CompEnd c H1 s1 D Cl ds H' s' → (∃ m, s'.heap.Ns Cl m) → compPost (model c.prog c.w) A NoE use QQ (.ref D) Cl (.ok .next) s') :
    wpAny (model c.prog c.w) A (newList []) (fun acc s₃ => wpAny (model c.prog c.w) A (newFunctionEnv scope env.globals (closL env.cells scope.names []) [] env.qual none .none (some env)) (fun cenv s₄ =>
      codeAny (model c.prog c.w) A (.compStart (.ListComp elt [⟨target, iter, [], 0⟩] scope pos) 0 (.ref s1.heap.objs.size) acc { cenv with scope := relabel scope env }) (compPost (model c.prog c.w) A NoE use QQ acc cenv.locals) s₄) NoE s₃) NoE { s1 with heap := h2 } := by
  refine wpAny_newObj_type (wpAny_newFunctionEnv O.nocell (by intro y hy; simp at hy) (fun h₁ hns₁ hsb₁ => ?_) O.kind)
  dsimp only at hns₁ hsb₁ ⊢
  obtain ⟨oI, hoI⟩ := W.live _ _ hJ
  have hI2 : s1.heap.objs.size < h2.objs.size := Heap.lt_size hoI
  generalize hH3 : h2.push { cls := .type "list", dict := none, data := .seq ([] : List Value).toArray } = H3 at hns₁ hsb₁ ⊢
  have hC3 : H3.objs.size = h2.objs.size + 1 := by rw [← hH3, Heap.size_push]
  have hDC : h2.objs.size ≠ H3.objs.size := by rw [hC3]; exact Nat.ne_of_lt (Nat.lt_succ_self _)
  have hID : s1.heap.objs.size ≠ h2.objs.size := Nat.ne_of_lt hI2
  have hIC : s1.heap.objs.size ≠ H3.objs.size := by rw [hC3]; exact Nat.ne_of_lt (Nat.lt_succ_of_lt hI2)
  have old2 : ∀ b o, h2.get? b = some o → h₁.get? b = some o := fun b o e =>
    hsb₁.extBut b o (by rw [hC3]; exact Nat.ne_of_lt (Nat.lt_succ_of_lt (Heap.lt_size e))) (Heap.get?_push_of_some _ (hH3 ▸ Heap.get?_push_of_some _ e))
  have old : ∀ b o, s1.heap.get? b = some o → h₁.get? b = some o := fun b o e => old2 b o (hk2 b o e)
  have fresh : ∀ a, s1.heap.objs.size ≤ a → s1.heap.get? a = none := fun a ha => by
    cases e : s1.heap.get? a with
    | none => rfl
    | some o' => exact absurd (Heap.lt_size e) (Nat.not_lt.mpr ha)
  have fI := fresh _ (Nat.le_refl _)
  have fD := fresh h2.objs.size (Nat.le_of_lt hI2)
  have fC := fresh H3.objs.size (by rw [hC3]; exact Nat.le_succ_of_le (Nat.le_of_lt hI2))
  have bI : c.hB.objs.size ≤ s1.heap.objs.size := t.big
  have bD : c.hB.objs.size ≤ h2.objs.size := Nat.le_trans bI (Nat.le_of_lt hI2)
  have bC : c.hB.objs.size ≤ H3.objs.size := by rw [hC3]; exact Nat.le_succ_of_le bD
  have hD₁ : h₁.get? h2.objs.size = some (listOf (#[] : Array Value) 0) := hsb₁.extBut _ _ hDC (Heap.get?_push_of_some _ (hH3 ▸ Heap.get?_push_size _ rfl))
  have hcl : ∀ x, (x, NameKind.free) ∈ scope.names → ∃ a, env.cells.lookup x = some a := fun x hx => t.fr.ok.cdef x (O.free x hx)
  generalize hcd : closL env.cells scope.names [] = cl
  have clE : ∀ x a, cl.lookup x = some a → env.cells.lookup x = some a := fun x a e => by
    rcases closL_mem (names := scope.names) (cs := []) (hcd ▸ lookup_mem e) with h | h
    · cases h
    · exact h
  have clH : ∀ x, (x, NameKind.free) ∈ scope.names → ∃ a, cl.lookup x = some a := fun x hx => by
    obtain ⟨a, ha⟩ := hcl x hx
    exact mem_lookup (hcd ▸ closL_has (cs := []) ha hx)
  have nC : H1 H3.objs.size = none := by
    cases q : H1 H3.objs.size with
    | none => rfl
    | some o =>
      obtain ⟨y, hy⟩ := t.rel.live (a := H3.objs.size) (by rw [q]; exact fun z => nomatch z)
      rw [fC] at hy; cases hy
  have nD : H1 h2.objs.size = none := by
    cases q : H1 h2.objs.size with
    | none => rfl
    | some o =>
      obtain ⟨y, hy⟩ := t.rel.live (a := h2.objs.size) (by rw [q]; exact fun z => nomatch z)
      rw [fD] at hy; cases hy
  have t4 : St c (compEnvC scope cl H3.objs.size env) (f.only caps) H1 { s1 with heap := h₁, toks := s1.toks + ([] : List (Str × Value)).length } := by
    obtain ⟨t4, k4⟩ := t.grow (n := s1.toks + ([] : List (Str × Value)).length) old
    refine ⟨t4.rel, ⟨⟨?_, t.fr.ok.glob, t.fr.ok.bui, bC, fun x y a e1 e2 => t.fr.ok.cinj x y a (clE x a e1) (clE y a e2), fun x a e => t.fr.ok.cabove x a (clE x a e), fun x e => clH x (relabel_cell O.nocell e)⟩, ⟨_, hns₁, fun x v e => ?_⟩, fun x a e => t4.fr.cells x a (clE x a e), nC, fun x a e => t.fr.coff x a (clE x a e)⟩⟩
    · show (relabel scope env).kind = .function
      exact O.kind
    · by_cases hx : x ∈ caps
      · rw [show f.only caps x = f x from if_pos hx] at e
        obtain ⟨hf, hr⟩ := O.caps x hx
        obtain ⟨m, hm, hv⟩ := t4.fr.vars
        rcases hv x v e with ⟨hk, _⟩ | ⟨hk, a, y, ha, hc, r⟩
        · rw [O.free x hf] at hk; cases hk
        · obtain ⟨a', ha'⟩ := clH x hf
          have := clE x a' ha'
          rw [ha] at this; cases this
          exact .inr ⟨.inl hr, a, y, ha', hc, r⟩
      · rw [show f.only caps x = none from if_neg hx] at e; cases e
  have x4 : Ext (fun _ => False) H1 s1 H1 { s1 with heap := h₁, toks := s1.toks + ([] : List (Str × Value)).length } := Ext.grow old
  have cell_live : ∀ b, (∃ x, (compEnvC scope cl H3.objs.size env).cells.lookup x = some b) → ∃ o, s1.heap.get? b = some o := fun b e => by
    obtain ⟨x, e⟩ := e
    obtain ⟨v, o, ho, _⟩ := t.fr.cells x b (clE x b e)
    exact ⟨o, ho⟩
  have hIo : ¬ ownB (compEnvC scope cl H3.objs.size env) s1.heap.objs.size := by
    rintro (e | e)
    · exact hIC e
    · obtain ⟨o, ho⟩ := cell_live _ e; rw [fI] at ho; cases ho
  have hDo : ¬ ownB (compEnvC scope cl H3.objs.size env) h2.objs.size := by
    rintro (e | e)
    · exact hDC e
    · obtain ⟨o, ho⟩ := cell_live _ e; rw [fD] at ho; cases ho
  have hJ4 : J 0 h₁ := W.frame _ _ _ hJ (fun o e => old2 _ o e) fun b o i n e _ _ => old2 b o e
  have loop : codeAny (model c.prog c.w) A (.compLoop (.ListComp elt [⟨target, iter, [], 0⟩] scope pos) 0 (.ref s1.heap.objs.size) (.ref h2.objs.size) (compEnvC scope cl H3.objs.size env))
        (compPost (model c.prog c.w) A NoE use QQ (.ref h2.objs.size) H3.objs.size) { s1 with heap := h₁, toks := s1.toks + ([] : List (Str × Value)).length } := by
    refine comp_core g W (hT _ _) (he _ _) hlet (fun x hx => ?_) fI fD fC hID hIo hDo bI bD t4 x4 hJ4 t.rel.next nD hD₁ h fun H' s' ds xs n hq t' x' nD' oD' rD' hl' => ?_
    · exact if_neg (hno x hx)
    · exact fin _ _ ds H' s' hq ⟨t'.rel, x', t'.fr.off, nD', fC, fD, bC, bD, hDC, ⟨xs, n, oD', rD', Nat.le_trans hl' (by decide)⟩⟩ (let ⟨m, hm, _⟩ := t'.fr.vars; ⟨m, hm⟩)
  exact codeAny_compStart_list loop (W.self 0 _ _ _ hJ4 loop)
theorem CompEnd.off {D Cl : Addr} {ds : List Dt} {H' : AH} {s' : Shared} (e : CompEnd c H1 s1 D Cl ds H' s') (hns : ∃ m, s'.heap.Ns Cl m) {h' : Heap} {n : Nat} (hs : Heap.SameBut Cl s'.heap h') : CompEnd c H1 s1 D Cl ds H' { s' with heap := h', toks := n } := by
  obtain ⟨m, hm⟩ := hns
  have tk : TupKeep s'.heap h' := fun b o i n ho hc hd => hs.extBut b o (fun z => by
    subst z
    obtain ⟨o', es, ep, ho', hd', _⟩ := hm
    rw [ho] at ho'; cases ho'; rw [hd] at hd'; cases hd') ho
  exact ⟨e.rel.off e.offC e.aboveC tk hs.extBut, e.ext.off (n := n) e.freshC hs.extBut, e.offC, e.offD, e.freshC, e.freshD, e.aboveC, e.aboveD, e.ne, ORep.move (fun x hx => hs.extBut _ x e.ne hx) tk e.obj⟩
theorem CompEnd.take {D Cl : Addr} {ds : List Dt} {H' : AH} {s' : Shared} (e : CompEnd c H1 s1 D Cl ds H' s') (t : St c env f H1 s1) : St c env f (H'.set D (.lst ds)) s' ∧ Ext (ownL env) H1 s1 (H'.set D (.lst ds)) s' :=
  ⟨(t.after e.rel e.ext).adopt e.offD (ownB_fresh t e.freshD) e.aboveD e.obj, (e.ext.weaken fun _ z => z.elim).adopt e.freshD⟩
end
def CompSrc (c : Cx) (C : Oracle) (env : Env) (target iter : Expr) (ie : IE) (tg : Tg) (caps : List Str) (ir : IE) (k : Nat) : Prop :=
  ∀ (A : Around) (f : Frm) (H : AH) (s : Shared) (Q : Post) (R : Value → Shared → Prop), GoodA k A → St c env f H s → We C ir f H Q →
    (∀ H1 s1 h' vs chk J, St c env f H1 s1 → Ext (ownL env) H s H1 s1 → (∀ b o, s1.heap.get? b = some o → h'.get? b = some o) → Itr c A s1.heap.objs.size vs chk J →
      LetOK c A target tg s1.heap.objs.size J →
      J 0 h' → LcL chk (fun f' H' Q' => We C ie f' H' Q') tg (f.only caps) vs H1 (fun ds H2 => newO H2 (.lst ds) Q) → R (.ref s1.heap.objs.size) { s1 with heap := h' }) →
    wpAny (model c.prog c.w) A (eval iter env) (fun x s₁ => wpAny (model c.prog c.w) A (pyIter x) R NoE s₁) NoE s
section
variable {c : Cx} {C : Oracle} {env : Env} {k : Nat}
theorem src_lcE {target iter : Expr} {ie ii : IE} {tg : Tg} {caps : List Str} {env' : Env} (h1 : SndO c C env iter ii k) (hT : TgL env' target tg) : CompSrc c C env target iter ie tg caps (.lcE ie tg ii caps) k := by
  intro A f H s Q R g t h fin
  refine h1.go g t (h : We C ii f H (itemsQ fun v ds chk H1 => TgOk tg v ∧ LcL chk (fun f' H' Q' => We C ie f' H' Q') tg (f.only caps) (ds.map .d) H1 fun es H2 => newO H2 (.lst es) Q)) fun a v H1 s1 hq ra t1 k1 => ?_
  cases hq with
  | mk hd hq => exact items_iter g hd ra t1 fun h' J hk W hlet hJ => fin H1 s1 h' _ _ J t1 k1 hk W (hlet _ target tg hT hq.1) hJ hq.2
theorem src_lcR {target e : Expr} {ie ni : IE} {x y : Str} {p pos : Pos} {caps : List Str} {env' : Env} (B : BiOK c env x (.type "range")) (h1 : SndO c C env e ni k) (hs : ∀ rest, starEach (e :: rest) env = (false, eval e env) :: starEach rest env) (hT : TgL env' target (.one y)) :
    CompSrc c C env target (.Call (.Name x p) [e] [] pos) ie (.one y) caps (.lcR ie y ni caps) k := by
  intro A f H s Q R g t h fin
  refine Call_ (bi_name B t ?_) rfl
  refine PySem.callWith_type (by rw [hs]; rfl) ?_
  have body : wpAny (model c.prog c.w) A (spliced (backTo pos (starEach [e] env))) (fun xs s1 => wpAny (model c.prog c.w) A (call (.type "range") xs) (fun x s1 => wpAny (model c.prog c.w) A (pyIter x) R NoE s1) NoE s1) NoE s :=
    args_cons (h1.go g t (h : We C ni f H (cntQ fun n H1 => LcL (fun _ => True) (fun f' H' Q' => We C ie f' H' Q') (.one y) (f.only caps) ((List.range n).map fun (i : Nat) => AV.d (.int (i : Int))) H1 fun ds H2 => newO H2 (.lst ds) Q)) fun a v H1 s1 hq ra t1 k1 => args_nil (by
      cases hq with
      | mk hn hq => exact range_call (P := fun vs H1 => LcL (fun _ => True) (fun f' H' Q' => We C ie f' H' Q') (.one y) (f.only caps) vs H1 fun ds H2 => newO H2 (.lst ds) Q) (.up (Nat.lt_of_le_of_lt hn (by decide)) hq) (.cons ra .nil) t1 fun r ws s2 hq hr t2 k2 =>
          range_iter g hr fun h' J hk W hJ => fin H1 s2 h' _ _ J t2 (k1.trans k2) hk W (let_one hT) hJ hq)) (hs _)
  rw [hs] at body ⊢
  exact PySem.Calls.evalArgs_plain body
end
section
variable {c : Cx} {C : Oracle} {env : Env} {k : Nat}
theorem snd_comp {elt target iter : Expr} {scope : Scope} {pos : Pos} {ie ir : IE} {tg : Tg} {caps : List Str} (O : CompOK env scope caps) (S : CompSrc c C env target iter ie tg caps ir k) (hs : ∀ x, foldedSetIterable iter env x = pure x)
    (hT : ∀ cl Cl, TgL (compEnvC scope cl Cl env) target tg) (he : ∀ cl Cl, SndO c C (compEnvC scope cl Cl env) elt ie k) (hno : ∀ x ∈ tgNames tg, x ∉ caps) :
    SndO c C env (.ListComp elt [⟨target, iter, [], 0⟩] scope pos) ir k := by
  intro A f H Q s g t h
  rw [eval_ListComp]
  show wpAny _ A (comprehension (.ListComp elt [⟨target, iter, [], 0⟩] scope pos) scope env iter.pos (newList []) false (eval iter env)) _ _ s
  refine wpAny_comprehension_free (use := none) (cl := closL env.cells scope.names []) rfl hs (closure_ok fun x hx => t.fr.ok.cdef x (O.free x hx)) O.kind O.locals ?_
  refine S A f H s Q _ g t h fun H1 s1 h' vs chk J t1 k1 hk W hlet hJ hq => ?_
  refine comp_make g O W hT he hlet hno t1 hk hJ hq fun D Cl ds' H' s' hq' e hns => ?_
  obtain ⟨m, hm⟩ := hns
  refine ⟨m, hm, fun h'' hs'' => ?_⟩
  obtain ⟨t2, k2⟩ := (e.off ⟨m, hm⟩ (n := s'.toks) hs'').take t1
  exact .mk (hq' D e.offD) rfl t2 (k1.trans k2)
theorem sndX_comp {elt target iter : Expr} {scope : Scope} {pos spos py : Pos} {ie ir : IE} {tg : Tg} {y : Str} {caps : List Str} (O : CompOK env scope caps) (S : CompSrc c C env target iter ie tg caps ir k) (hs : ∀ x, foldedSetIterable iter env x = pure x)
    (hT : ∀ cl Cl, TgL (compEnvC scope cl Cl env) target tg) (he : ∀ cl Cl, SndO c C (compEnvC scope cl Cl env) elt ie k) (hno : ∀ x ∈ tgNames tg, x ∉ caps)
    (hsw : swapsWith (.ListComp elt [⟨target, iter, [], 0⟩] scope pos) (some (.Name y py)) spos.line env = pure true) (hy : env.kindOf y = some .local) :
    SndX c C env (.Assign [.Name y py] (.ListComp elt [⟨target, iter, [], 0⟩] scope pos) spos) (.asg (.one y) ir) k := by
  intro A f H Q s g t h
  have h : We C ir f H (asgP (.one y) f (Q .next)) := h
  rw [exec_Assign_Name_used _ _ _ _ hsw]
  refine wpAny_bind (wpAny_standAt (wpAny_bind ?_))
  show wpAny _ A (do let _ ← comprehension (.ListComp elt [⟨target, iter, [], 0⟩] scope pos) scope env iter.pos (newList []) false (eval iter env) (some (assign (.Name y py) env))) _ _ s
  refine wpAny_bind (wpAny_mono (wpAny_comprehension_free (use := some (assign (.Name y py) env)) (Q := fun _ s' => SP c env H s Q .next s') (cl := closL env.cells scope.names []) rfl hs (closure_ok fun x hx => t.fr.ok.cdef x (O.free x hx)) O.kind O.locals ?_)
    (fun _ s' hq => wpAny_pure (wpAny_pure hq)) fun _ _ e => e)
  refine S A f H s _ _ g t h fun H1 s1 h' vs chk J t1 k1 hk W hlet hJ hq => ?_
  refine comp_make g O W hT he hlet hno t1 hk hJ hq fun D Cl ds' H' s' hq' e hns => ?_
  obtain ⟨m, hm⟩ := id hns
  obtain ⟨t2, k2⟩ := e.take t1
  have hDC : ∀ {o}, (H'.set D o) Cl = none := fun {o} => (if_neg (Ne.symm e.ne)).trans e.offC
  have hCo : ¬ ownB env Cl := ownB_fresh t1 e.freshC
  show wpAny _ A (assign (.Name y py) env (.ref D)) _ _ _
  refine assign_Name (storeL_rule (v := .r D) hy t2 rfl fun s3 t3 k3 => ?_)
  have hCL : Cl ≠ env.locals := fun z => hCo (.inl z)
  have hm3 : s3.heap.Ns Cl m := by
    obtain ⟨o, es, ep, ho, r⟩ := hm
    exact ⟨o, es, ep, k3.keep _ o ho hDC hCL, r⟩
  refine ⟨m, hm3, fun h4 hs4 => ?_⟩
  have tk : TupKeep s3.heap h4 := fun b o i n ho hc hd => hs4.extBut b o (fun z => by
    subst z
    obtain ⟨o', es, ep, ho', hd', _⟩ := hm3
    rw [ho] at ho'; cases ho'; rw [hd] at hd'; cases hd') ho
  have t4 := t3.offT (n := s3.toks) hDC hCo e.aboveC tk hs4.extBut
  have x4 := ((k2.trans k3)).off (n := s3.toks) e.freshC hs4.extBut
  exact SP.next (hq' D e.offD) t4 (k1.trans x4).own
end
structure FdOK (c : Cx) (g : Fk) (fd : FuncData) (ps : List Str) (n : Nat) (body : List Stmt) (dv : List Value) (da : List Dt) : Prop where
  obj : ∃ oc od osl, c.K.lookup (c.fadr g) = some ⟨oc, od, .func fd, osl⟩
  code : codeIn c.K fd.code fd.qualname = true
  body : fd.body = .stmts body
  binds : ∀ (s : Shared) (xs : List Value), c.K.In s.heap → xs.length = n → BindsTo s fd ⟨xs, []⟩ (ps.zip (xs ++ dv))
  dflt : ∀ h, DtAll h dv da
  len : n + dv.length = ps.length
  nodup : ps.Nodup
  kinds : ∀ x ∈ ps, fd.scope.names.lookup x = some .local ∨ fd.scope.names.lookup x = some .cell
  clo : fd.closure = []
  glob : fd.globals = mainGlobals
  bui : fd.builtins = builtinsNs
  co : fd.scope.isCoroutine = false
  gen : fd.scope.isGenerator = false
  kind : fd.scope.kind = .function
theorem bindL_out {kindOf : Str → Option NameKind} {y : Str} {r : List (Str × Value)} : ∀ {m : Str → Option Value}, y ∉ r.map (·.1) → bindL kindOf r m y = m y := by
  induction r with
  | nil => intro m _; rfl
  | cons p r ih =>
    intro m h
    have h2 : y ∉ r.map (·.1) := fun z => h (List.mem_cons_of_mem _ z)
    by_cases hk : kindOf p.1 = some .local
    · exact (ih (m := if kindOf p.1 = some .local then (fun y => if y = p.1 then some p.2 else m y) else m) h2).trans (by rw [if_pos hk]; exact if_neg fun e => h (by rw [e]; exact List.mem_cons_self))
    · exact (ih (m := if kindOf p.1 = some .local then (fun y => if y = p.1 then some p.2 else m y) else m) h2).trans (by rw [if_neg hk])
theorem bindC_out {kindOf : Str → Option NameKind} {y : Str} {r : List (Str × Value)} : ∀ {m : Str → Option Value}, y ∉ r.map (·.1) → bindC kindOf r m y = m y := by
  induction r with
  | nil => intro m _; rfl
  | cons p r ih =>
    intro m h
    have h2 : y ∉ r.map (·.1) := fun z => h (List.mem_cons_of_mem _ z)
    by_cases hk : kindOf p.1 = some .local
    · exact (ih (m := if kindOf p.1 = some .local then m else (fun y => if y = p.1 then some p.2 else m y)) h2).trans (by rw [if_pos hk])
    · exact (ih (m := if kindOf p.1 = some .local then m else (fun y => if y = p.1 then some p.2 else m y)) h2).trans (by rw [if_neg hk]; exact if_neg fun e => h (by rw [e]; exact List.mem_cons_self))
theorem bindL_at {kindOf : Str → Option NameKind} {y : Str} {v : Value} {r : List (Str × Value)} : ∀ {m : Str → Option Value}, (r.map (·.1)).Nodup → r.lookup y = some v → kindOf y = some .local → bindL kindOf r m y = some v := by
  induction r with
  | nil => intro m _ h; cases h
  | cons p r ih =>
    intro m hn hl hk
    obtain ⟨n, w⟩ := p
    rw [List.map_cons, List.nodup_cons] at hn
    rw [List.lookup_cons] at hl
    cases e : y == n with
    | true =>
      obtain rfl : y = n := eq_of_beq e
      rw [e] at hl; cases hl
      exact (bindL_out (m := if kindOf y = some .local then (fun z => if z = y then some v else m z) else m) hn.1).trans (by rw [if_pos hk]; exact if_pos rfl)
    | false =>
      rw [e] at hl
      exact ih hn.2 hl hk
theorem bindC_at {kindOf : Str → Option NameKind} {y : Str} {v : Value} {r : List (Str × Value)} : ∀ {m : Str → Option Value}, (r.map (·.1)).Nodup → r.lookup y = some v → kindOf y ≠ some .local → bindC kindOf r m y = some v := by
  induction r with
  | nil => intro m _ h; cases h
  | cons p r ih =>
    intro m hn hl hk
    obtain ⟨n, w⟩ := p
    rw [List.map_cons, List.nodup_cons] at hn
    rw [List.lookup_cons] at hl
    cases e : y == n with
    | true =>
      obtain rfl : y = n := eq_of_beq e
      rw [e] at hl; cases hl
      exact (bindC_out (m := if kindOf y = some .local then m else (fun z => if z = y then some v else m z)) hn.1).trans (by rw [if_neg hk]; exact if_pos rfl)
    | false =>
      rw [e] at hl
      exact ih hn.2 hl hk
theorem cells_cell {x : Str} {r : List (Str × NameKind)} {n : Nat} {acc : List (Str × Addr)} {k : NameKind} (h : (k == NameKind.cell) = true) : cellsFrom n ((x, k) :: r) acc = cellsFrom (n + 1) r ((x, n) :: acc) := if_pos h
theorem cells_else {x : Str} {r : List (Str × NameKind)} {n : Nat} {acc : List (Str × Addr)} {k : NameKind} (h : ¬ (k == NameKind.cell) = true) : cellsFrom n ((x, k) :: r) acc = cellsFrom n r acc := if_neg h
theorem cellsFrom_sup {p : Str × Addr} {names : List (Str × NameKind)} : ∀ {n : Nat} {acc : List (Str × Addr)}, p ∈ acc → p ∈ cellsFrom n names acc := by
  induction names with
  | nil => intro n acc h; exact h
  | cons q r ih =>
    intro n acc h
    by_cases hk : (q.2 == NameKind.cell) = true
    · rw [cells_cell hk]; exact ih (List.mem_cons_of_mem _ h)
    · rw [cells_else hk]; exact ih h
theorem cellsFrom_has {x : Str} {names : List (Str × NameKind)} : ∀ {n : Nat} {acc : List (Str × Addr)}, (x, NameKind.cell) ∈ names → ∃ a, (x, a) ∈ cellsFrom n names acc := by
  induction names with
  | nil => intro n acc h; cases h
  | cons q r ih =>
    intro n acc h
    rcases List.mem_cons.mp h with h | h
    · cases h
      rw [cells_cell rfl]
      exact ⟨n, cellsFrom_sup List.mem_cons_self⟩
    · by_cases hk : (q.2 == NameKind.cell) = true
      · rw [cells_cell hk]; exact ih h
      · rw [cells_else hk]; exact ih h
theorem cellsFrom_lookup {names : List (Str × NameKind)} {n : Nat} {x : Str} (h : names.lookup x = some .cell) : ∃ a, (cellsFrom n names []).lookup x = some a := by
  obtain ⟨a, ha⟩ := cellsFrom_has (n := n) (acc := []) (lookup_mem h)
  exact mem_lookup ha
section
variable {c : Cx} {C : Oracle} {k : Nat} {A : Around} {f f' : Frm} {H H1 : AH} {s s1 : Shared}
theorem VAll.append {h : Heap} {xs ys : List Value} {vs us : List AV} (a : VAll c h xs vs) (b : VAll c h ys us) : VAll c h (xs ++ ys) (vs ++ us) := by
  induction a with
  | nil => exact b
  | cons r _ ih => exact .cons r ih
theorem VAll.ofDt {h : Heap} {xs : List Value} {ds : List Dt} (a : DtAll h xs ds) : VAll c h xs (ds.map AV.d) := by
  induction xs generalizing ds with
  | nil => cases a; exact .nil
  | cons x xs ih => cases a with | cons r a => exact .cons (v := .d _) r (ih a)
theorem VAll.zip {h : Heap} {xs : List Value} {vs : List AV} (a : VAll c h xs vs) : ∀ (ps : List Str) (y : Str) (v : AV), (ps.zip vs).lookup y = some v → ∃ x, (ps.zip xs).lookup y = some x ∧ VRep c h x v := by
  induction a with
  | nil => intro ps y v e; simp at e
  | @cons x w xs vs r _ ih =>
    intro ps y v e
    cases ps with
    | nil => cases e
    | cons p ps =>
      simp only [List.zip_cons_cons, List.lookup_cons] at e ⊢
      cases q : y == p with
      | true => rw [q] at e; cases e; exact ⟨x, rfl, r⟩
      | false => rw [q] at e; exact ih ps y v e
theorem Rel.grow {h h' : Heap} (R : Rel c H h) (hk : ∀ b o, h.get? b = some o → h'.get? b = some o) : Rel c H h' :=
  ⟨fun b o e => hk b o (R.keep b o e), R.fresh, fun b o e => (R.objs b o e).move (fun x hx => hk b x hx) fun b o i n e _ _ => hk b o e⟩
theorem call_intro {g : Fk} {fd : FuncData} {ps : List Str} {n : Nat} {body : List Stmt} {dv : List Value} {da : List Dt} {irs : List IS} (F : FdOK c g fd ps n body dv da)
    (hb : ∀ env, env.scope = fd.scope → SndXs c (Call c k) env body irs k) {vs : List AV} {Q : Post} (hv : vs.length = n)
    (h : Wxs (Call c k) irs (frameOf ps (vs ++ da.map AV.d)) H (retQ Q)) : Call c (k + 1) g vs H Q := by
  intro A s xs gC R hbig rv
  have X : c.K.In s.heap := c.X.keeps R.keep
  obtain ⟨oc, od, osl, hobj⟩ := F.obj
  have ho := X _ _ hobj
  have hd := gC.depth
  have hu := gC.units
  have hxl : xs.length = n := by rw [rv.length, hv]
  have hmap : (ps.zip (xs ++ dv)).map (·.1) = ps := by
    rw [List.map_fst_zip]
    rw [List.length_append, hxl, F.len]
    exact Nat.le_refl _
  have rv' : VAll c s.heap (xs ++ dv) (vs ++ da.map AV.d) := rv.append (VAll.ofDt (F.dflt _))
  have hkind : ∀ x ∈ ps.zip (xs ++ dv), fd.scope.names.lookup x.1 = some .local ∨ (fd.scope.names.lookup x.1 = some .cell ∧ ((cellsFrom (s.heap.objs.size + 1) fd.scope.names []).lookup x.1).isSome = true) := by
    intro x hx
    have hm : x.1 ∈ ps := by rw [← hmap]; exact List.mem_map_of_mem hx
    rcases F.kinds _ hm with e | e
    · exact .inl e
    · obtain ⟨a, ha⟩ := cellsFrom_lookup (n := s.heap.objs.size + 1) e
      exact .inr ⟨e, by rw [ha]; rfl⟩
  refine codeAny_call_function (show A.depth < 1000 by omega) ho rfl F.co F.gen F.body ((codeRec_of X F.code)) (F.binds s xs X hxl _ _ _ _ ?_)
  rw [F.clo]
  refine wpAny_newFunctionEnv_cells F.kind hkind fun env he s' x => ⟨(c.T.nolimit.keeps R.keep).keeps x.toInCall.keep, ?_⟩
  have henv : env = callEnvC fd s.heap.objs.size (c.fadr g) := he
  have hsc : env.scope = fd.scope := by rw [henv]; rfl
  have hloc : env.locals = s.heap.objs.size := by rw [henv]; rfl
  have hcells : env.cells = cellsFrom (s.heap.objs.size + 1) fd.scope.names [] := by rw [henv]; rfl
  have fresh : ∀ a, s.heap.objs.size ≤ a → s.heap.get? a = none := fun a ha => by
    cases e : s.heap.get? a with
    | none => rfl
    | some o' => exact absurd (Heap.lt_size e) (Nat.not_lt.mpr ha)
  have offH : ∀ a, s.heap.objs.size ≤ a → H a = none := fun a ha => by
    cases q : H a with
    | none => rfl
    | some o =>
      obtain ⟨y, hy⟩ := R.live (a := a) (by rw [q]; exact fun z => nomatch z)
      rw [fresh a ha] at hy; cases hy
  have cabove : ∀ z a, env.cells.lookup z = some a → s.heap.objs.size ≤ a := fun z a e => by
    have := x.above z a (lookup_mem e)
    rw [hloc] at this
    exact Nat.le_of_lt this
  obtain ⟨⟨h₁, tk, rfl⟩, hns, hkeep, _⟩ := id x.toInCall
  have t : St c env (frameOf ps (vs ++ da.map AV.d)) H { s with heap := h₁, toks := tk } := by
    refine ⟨R.grow hkeep, ⟨⟨by rw [hsc]; exact F.kind, by rw [henv]; exact F.glob, by rw [henv]; exact F.bui, by rw [hloc]; exact hbig, fun z y a e1 e2 => name_of_addr x.apart (lookup_mem e1) (lookup_mem e2), fun z a e => Nat.le_trans hbig (cabove z a e), fun z e => ?_⟩,
      ⟨_, hns, fun y v e => ?_⟩, fun z a e => ⟨_, x.cell z a e⟩, by rw [hloc]; exact offH _ (Nat.le_refl _), fun z a e => offH a (cabove z a e)⟩⟩
    · rw [hcells]
      have e' : fd.scope.names.lookup z = some .cell := by rw [← hsc]; exact e
      exact cellsFrom_lookup e'
    · obtain ⟨xv, hx, rx⟩ := rv'.zip ps y v e
      have hm : y ∈ ps := by rw [← hmap]; exact List.mem_map_of_mem (f := (·.1)) (lookup_mem hx)
      have rx' : VRep c h₁ xv v := rx.keep fun b o i n e _ _ => hkeep b o e
      have hnd : ((ps.zip (xs ++ dv)).map (·.1)).Nodup := by rw [hmap]; exact F.nodup
      rcases F.kinds y hm with e1 | e1
      · have hk : env.kindOf y = some .local := by unfold Env.kindOf; rw [hsc]; exact e1
        exact .inl ⟨hk, xv, bindL_at hnd hx hk, rx'⟩
      · have hk : env.kindOf y = some .cell := by unfold Env.kindOf; rw [hsc]; exact e1
        obtain ⟨a, ha⟩ := cellsFrom_lookup (n := s.heap.objs.size + 1) e1
        rw [← hcells] at ha
        have hc := x.cell y a ha
        rw [bindC_at hnd hx (by rw [hk]; decide)] at hc
        exact .inr ⟨.inl hk, a, xv, ha, hc, rx'⟩
  have gA : GoodA k (A.deeper env) := ⟨gC.hd, by show A.depth + 1 + 2 * k < 900; omega, by show A.units + 3 + 8 * k + 2100 < cLine; omega⟩
  refine codeAny_func (wpAny_mono (hb env hsc (A.deeper env) _ H _ _ gA t h) (fun fl s2 e => ?_) fun _ _ z => z.elim)
  have own_fresh : ∀ b, ownB env b → s.heap.get? b = none := fun b hb => by
    rcases hb with rfl | ⟨z, hz⟩
    · exact fresh _ (by rw [hloc]; exact Nat.le_refl _)
    · exact fresh _ (cabove z b hz)
  cases e with
  | @mk _ f' H' q r t' x' =>
  have x'' : Ext (fun _ => False) H s H' s2 := ((Ext.grow (own := ownB env) (n := tk) hkeep).trans x').none_of own_fresh
  cases r with
  | next => exact .mk (v := .d .none) q .none t'.rel x''
  | brk => exact (q : False).elim
  | cont => exact (q : False).elim
  | ret rv => exact .mk q rv t'.rel x''
end
noncomputable def tabFn : List Str := ["fixed_atoms", "fixed_functors", "push_arguments", "push_pairs", "same_shape", "is_variable", "unify", "bind_checked", "trial", "occurs_in", "_law_row", "_law_next", "_law_term", "_law_turned", "_law_equation",
  "_law_end", "_law_inside", "_law_solved", "_law_whole", "_law_cell", "_law_right"]
noncomputable def tabCl : List (Str × Cl) := [("Symbols", .sym), ("Store", .store), ("PairSet", .pairs)]
noncomputable def tabMe : List ((Str × Nat) × Cl) := [(("atom", 1), .sym), (("functor", 2), .sym), (("func", 2), .sym), (("name", 1), .sym), (("arity", 1), .sym),
  (("push", 1), .store), (("new_var", 0), .store), (("reserve", 1), .store), (("trim", 1), .store), (("deref", 1), .store), (("bind", 2), .store), (("bind_pair", 2), .store), (("globalise", 1), .store), (("mark", 0), .store), (("undo_to", 1), .store),
  (("stack_put", 2), .store), (("is_compound", 1), .store), (("functor_of", 1), .store), (("width", 1), .store), (("base", 1), .store), (("new_block", 1), .store), (("put_term", 2), .store), (("take_term", 2), .store), (("add", 2), .pairs)]
noncomputable def tabAt : List Str := ["texts", "atom_numbers", "functors", "functor_numbers", "symbols", "max_heap", "heap", "stack", "trail", "hb", "bb", "span", "met"]
noncomputable def tabCo : List (Str × Int) := [("A_NIL", 0), ("A_PLUS", 4), ("F_DOT", 0), ("F_MINUS1", 12), ("F_MINUS", 13), ("REF", 0), ("SRF", 1), ("STR", 2), ("LIS", 3), ("CON", 4), ("INT", 5), ("FUN", 6), ("VISIT", 0), ("BUILD", 1)]
noncomputable def tabBi : List (Str × Value) := [("len", .builtin "len"), ("list", .type "list"), ("tuple", .type "tuple"), ("set", .type "set"), ("range", .type "range"), ("isinstance", .builtin "isinstance"), ("bool", .type "bool"), ("zip", .type "zip")]
structure WOK (c : Cx) : Prop where
  fn : ∀ x ∈ tabFn, nsIn c.K mainGlobals x = some (some (.ref (c.fadr (.fn x)))) ∧ keepIn c.K (.ref (c.fadr (.fn x))) = true ∧ (x == ("__debug__" : Str)) = false
  cl : ∀ p ∈ tabCl, nsIn c.K mainGlobals p.1 = some (some (.ref (c.cadr p.2))) ∧ (p.1 == ("__debug__" : Str)) = false ∧ keepIn c.K (.ref (c.cadr p.2)) = true ∧ makesIn c.K (c.cadr p.2) = true ∧
    findIn c.K (.ref (c.cadr p.2)) "__init__" = some (some (.ref (c.fadr (.me p.2 "__init__")))) ∧ typeIn c.K (.ref (c.fadr (.me p.2 "__init__"))) = some (.type "function")
  me : ∀ p ∈ tabMe, MeOK c p.2 p.1.1
  att : ∀ x ∈ tabAt, AttOK c x
  co : ∀ p ∈ tabCo, (∃ tk, nsIn c.K mainGlobals p.1 = some (some (.int p.2 tk))) ∧ (p.1 == ("__debug__" : Str)) = false
  bi : ∀ p ∈ tabBi, nsIn c.K mainGlobals p.1 = some none ∧ bootBuiltins p.1 = some p.2 ∧ p.1 ≠ "__name__" ∧ (p.1 == ("__debug__" : Str)) = false
noncomputable def noStar (e : Expr) : Bool := match e with
  | .Starred .. => false
  | _ => true
noncomputable def isBase (e : Expr) : Bool := match e with
  | .Name .. => true
  | .Attribute .. => true
  | _ => false
noncomputable def isSet (e : Expr) : Bool := match e with
  | .Set .. => true
  | _ => false
noncomputable def one {α : Type} (l : List α) : Option α := match l with
  | [] => none
  | a :: r => cond r.isEmpty (some a) none
noncomputable def two {α : Type} (l : List α) : Option (α × α) := match l with
  | [] => none
  | a :: r => (one r).map fun b => (a, b)
noncomputable def optB {α β : Type} (x : β) (o : Option α) (f : α → β) : β := match o with
  | some a => f a
  | none => x
theorem no {α : Type} {x : α} {P : Prop} (h : none = some x) : P := nomatch h
theorem nb {P : Prop} (h : false = true) : P := nomatch h
theorem one_eq {α : Type} {l : List α} {a : α} (h : one l = some a) : l = [a] := by
  cases l with
  | nil => cases h
  | cons b r =>
    cases r with
    | nil => cases h; rfl
    | cons _ _ => cases h
theorem two_eq {α : Type} {l : List α} {a : α × α} (h : two l = some a) : l = [a.1, a.2] := by
  cases l with
  | nil => cases h
  | cons b r =>
    obtain ⟨d, h1, h2⟩ := Option.map_eq_some_iff.mp (h : (one r).map (fun d => (b, d)) = some a)
    rw [one_eq h1, ← h2]
theorem P_cond {α : Type} {P : α → Prop} {b : Bool} {x y : α} (h1 : b = true → P x) (h2 : b = false → P y) : P (cond b x y) := by
  cases b with
  | true => exact h1 rfl
  | false => exact h2 rfl
theorem P_opt {α β : Type} {P : β → Prop} {x : β} {o : Option α} {f : α → β} (h1 : P x) (h2 : ∀ a, o = some a → P (f a)) : P (optB x o f) := by
  cases o with
  | some a => exact h2 a rfl
  | none => exact h1
noncomputable def relabelS (scope sc : Scope) : Scope :=
  { scope with names := scope.names.map fun (n, k) => if (k == .free && sc.kind == .function && sc.names.lookup n == some .cell) then (n, .cell) else (n, k) }
noncomputable def glob? (sc : Scope) (x : Str) : Bool := sc.names.lookup x == some .globalImplicit
noncomputable def namesT (ok : Str → Bool) : List Expr → Option (List Str)
  | [] => some []
  | e :: es => match e with
    | .Name x _ => cond (ok x) ((namesT ok es).map (x :: ·)) none
    | _ => none
noncomputable def loc? (sc : Scope) (x : Str) : Bool := sc.names.lookup x == some .local
noncomputable def tgC (sc : Scope) (e : Expr) : Option Tg := match e with
  | .Name x _ => cond (loc? sc x) (some (.one x)) none
  | .Tuple es _ _ => (namesT (loc? sc) es).map .many
  | _ => none
noncomputable def compOk (scope sc : Scope) (tg : Tg) : Bool :=
  scope.kind == .function && scope.names.all (fun y => y.2 != .cell) && scope.names.all (fun y => y.2 != .local || scope.names.lookup y.1 == some .local) &&
  scope.names.all (fun y => y.2 != .free || (sc.names.lookup y.1 == some .cell && (relabelS scope sc).names.lookup y.1 == some .cell)) && (tgNames tg).all (fun x => scope.names.all fun y => y.2 != .free || y.1 != x)
noncomputable def capsOf (scope : Scope) : List Str := (scope.names.filter fun y => y.2 == .free).map (·.1)
noncomputable def rngArgs (sc : Scope) (e : Expr) : Option (List Expr) := match e with
  | .Call g es kws _ => (match g with
    | .Name f _ => cond (f == "range" && glob? sc f && kws.isEmpty && es.all noStar) (some es) none
    | _ => none)
  | _ => none
noncomputable def cSrc (F : Expr → IE) (ie : IE) (tg : Tg) (caps : List Str) (sc : Scope) (iter : Expr) : IE := match tg with
  | .one x => optB (cond (isSet iter) .bad (.lcE ie (.one x) (F iter) caps)) ((rngArgs sc iter).bind one) fun e => .lcR ie x (F e) caps
  | .many xs => cond (isSet iter) .bad (.lcE ie (.many xs) (F iter) caps)
noncomputable def cComp (F : Expr → IE) (G : Scope → Expr → IE) (sc : Scope) (elt : Expr) (scope : Scope) (target iter : Expr) : IE :=
  optB .bad (tgC (relabelS scope sc) target) fun tg => cond (compOk scope sc tg) (cSrc F (G (relabelS scope sc) elt) tg (capsOf scope) sc iter) .bad
noncomputable def cGen (F : Expr → IE) (G : Scope → Expr → IE) (sc : Scope) (elt : Expr) (scope : Scope) (g : Comprehension) : IE := match g with
  | ⟨target, iter, ifs, a⟩ => cond (ifs.isEmpty && a == 0) (cComp F G sc elt scope target iter) .bad
noncomputable def cIsb (F : Expr → IE) (sc : Scope) (f : Str) (e g : Expr) : IE := match g with
  | .Name T _ => cond (f == "isinstance" && T == "bool" && glob? sc T) (.isbool (F e)) .bad
  | _ => .bad
noncomputable def cBi1 (F : Expr → IE) (f : Str) (e : Expr) : IE := cond (f == "len") (.len (F e)) (cond (f == "tuple") (.tupl (F e)) (cond (f == "list") (.listc (F e)) .bad))
noncomputable def cBi (F : Expr → IE) (sc : Scope) (f : Str) (es : List Expr) : IE := match es with
  | [] => cond (f == "set") .newset .bad
  | e :: r => optB (cond r.isEmpty (cBi1 F f e) .bad) (one r) (cIsb F sc f e)
noncomputable def cName (F : Expr → IE) (sc : Scope) (f : Str) (es : List Expr) : IE :=
  cond (glob? sc f && es.all noStar) (cond (tabFn.contains f) (.fn f (es.map F)) (optB (cBi F sc f es) (tabCl.lookup f) fun cl => .new cl (es.map F))) .bad
noncomputable def cMeth (F : Expr → IE) (o : Expr) (m : Str) (es : List Expr) (ok : Bool) : IE :=
  cond (isBase o && es.all noStar && decide (es.length < 29) && ok) (optB (.mb (F o) m (es.map F)) (tabMe.lookup (m, es.length)) fun cl => .met cl (F o) m (es.map F)) .bad
noncomputable def cCall (F : Expr → IE) (sc : Scope) (g : Expr) (es : List Expr) (pos : Pos) : IE := match g with
  | .Name f _ => cName F sc f es
  | .Attribute o m apos => cMeth F o m es (apos.endLine == pos.line)
  | _ => .bad
noncomputable def cConst (c : Const) : IE := match c with
  | .int i => .con (.int i)
  | .str x => .con (.str x)
  | .bool b => .con (.bool b)
  | .none => .con .none
  | _ => .bad
noncomputable def cVar (sc : Scope) (x : Str) : IE :=
  cond (x == "__debug__" || x == "__classdict__") .bad (cond (glob? sc x) (optB .bad (tabCo.lookup x) fun i => .con (.int i)) (.loc x))
noncomputable def cUn (op : UnaryOp) (n u : IE) : IE := match op with
  | .Not => .notE n
  | .USub => .neg u
  | _ => .bad
noncomputable def cUnT (op : UnaryOp) (n : IE) : IE := match op with
  | .Not => .notE n
  | _ => .bad
noncomputable def cCmp (F : Expr → IE) (x : IE) (ops : List CmpOp) (bs : List Expr) : IE := optB .bad (one ops) fun op => optB .bad (one bs) fun b => cond (behindInMarks op b) .bad (.cmp op x (F b))
noncomputable def cChn (F : Expr → IE) (x : IE) (ops : List CmpOp) (bs : List Expr) : IE := optB (cCmp F x ops bs) (two ops) fun o => optB .bad (two bs) fun b => cond (behindInMarks o.2 b.2) .bad (.chn x o.1 (F b.1) o.2 (F b.2))
noncomputable def cBool (F : Expr → IE) (op : BoolOp) (es : List Expr) : IE := match es with
  | [] => .bad
  | e :: r => cond (r.all noStar) (match op with
    | .And => andN (F e) (r.map F)
    | .Or => orN (F e) (r.map F)) .bad
noncomputable def cSl (F : Expr → IE) (x : IE) (lo hi st : Option Expr) : IE := match st with
  | some _ => .bad
  | none => match lo with
    | none => optB .bad hi fun h => .slcH x (F h)
    | some l => cond hi.isNone (.slcL x (F l)) .bad
noncomputable def cSub (F : Expr → IE) (x : IE) (i : Expr) : IE := match i with
  | .Slice lo hi st _ => cSl F x lo hi st
  | i => .sub x (F i)
noncomputable def few (es : List Expr) : Bool := decide (es.length ≤ 1000) && es.all noStar
noncomputable def stepE (E T : Scope → Expr → IE) (sc : Scope) (e : Expr) : IE := match e with
  | .Name x _ => cVar sc x
  | .Constant c _ _ => cConst c
  | .Tuple es _ _ => cond (few es) (.tup (es.map (E sc))) .bad
  | .List es _ => cond (few es) (.lst (es.map (E sc))) .bad
  | .Dict ks vs _ => cond (ks.isEmpty && vs.isEmpty) .dct .bad
  | .UnaryOp op a _ => cUn op (E sc a) (E sc a)
  | .BinOp a op b _ => .bin op (E sc a) (E sc b)
  | .Compare a ops bs _ => cCmp (E sc) (E sc a) ops bs
  | .BoolOp op es _ => cBool (E sc) op es
  | .IfExp t a b _ => .ite (T sc t) (E sc a) (E sc b)
  | .Subscript a i _ => cSub (E sc) (E sc a) i
  | .Attribute a x _ => cond (isBase a && tabAt.contains x) (.att (E sc a) x) .bad
  | .Call g es kws pos => cond kws.isEmpty (cCall (E sc) sc g es pos) .bad
  | .ListComp elt gens scope _ => optB .bad (one gens) (cGen (E sc) E sc elt scope)
  | _ => .bad
noncomputable def plainT (e : Expr) : Bool := match e with
  | .UnaryOp .. => false
  | .BoolOp .. => false
  | .IfExp .. => false
  | .Compare .. => false
  | _ => true
noncomputable def stepT (E T : Scope → Expr → IE) (sc : Scope) (e : Expr) : IE := match e with
  | .UnaryOp op a _ => cUnT op (T sc a)
  | .BoolOp op es _ => cBool (T sc) op es
  | .IfExp t a b _ => .ite (T sc t) (T sc a) (T sc b)
  | .Compare a ops bs _ => cChn (E sc) (E sc a) ops bs
  | e => cond (plainT e) (E sc e) .bad
structure Two where
  E : Scope → Expr → IE
  T : Scope → Expr → IE
noncomputable def cET : Nat → Two
  | 0 => ⟨fun _ _ => .bad, fun _ _ => .bad⟩
  | n + 1 => ⟨stepE (cET n).E (cET n).T, stepT (cET n).E (cET n).T⟩
noncomputable abbrev cE (n : Nat) := (cET n).E
noncomputable abbrev cT (n : Nat) := (cET n).T
theorem starEach_no {e : Expr} (h : noStar e = true) (env : Env) (rest : List Expr) : starEach (e :: rest) env = (false, eval e env) :: starEach rest env := by
  cases e with
  | Starred _ _ => cases h
  | _ => rfl
section
variable {c : Cx} {C : Oracle} {env : Env} {k : Nat}
theorem snd_bad {e : Expr} : SndO c C env e .bad k := fun A f H Q s g t h => (h : False).elim
theorem sndT_bad {e : Expr} : SndT c C env e .bad k := fun A f H P1 P2 s g t h => (h : False).elim
theorem glob_of {x : Str} (h : glob? env.scope x = true) : env.kindOf x = some .globalImplicit := by
  unfold glob? at h
  exact beq_iff_eq.mp h
theorem WOK.fnOK (w : WOK c) {x : Str} (hx : x ∈ tabFn) (hg : glob? env.scope x = true) : FnOK c env x := let ⟨h1, h2, h3⟩ := w.fn x hx; ⟨glob_of hg, h1, h2, h3⟩
theorem WOK.clOK (w : WOK c) {x : Str} {cl : Cl} (hx : tabCl.lookup x = some cl) (hg : glob? env.scope x = true) : ClOK c env x cl :=
  let ⟨h1, h2, h3, h4, h5, h6⟩ := w.cl (x, cl) (lookup_mem hx); ⟨glob_of hg, h1, h2, h3, h4, h5, h6⟩
theorem WOK.biOK (w : WOK c) {x : Str} {v : Value} (hx : (x, v) ∈ tabBi) (hg : glob? env.scope x = true) : BiOK c env x v := let ⟨h1, h2, h3, h4⟩ := w.bi (x, v) hx; ⟨glob_of hg, h1, h2, h3, h4⟩
theorem and1 {a b : Bool} (h : (a && b) = true) : a = true := by cases a with
  | true => rfl
  | false => cases h
theorem and2 {a b : Bool} (h : (a && b) = true) : b = true := by cases a with
  | true => exact h
  | false => cases h
theorem nil_of {α : Type} {l : List α} (h : l.isEmpty = true) : l = [] := by cases l with
  | nil => rfl
  | cons _ _ => cases h
theorem snd_cond {C : Oracle} {e : Expr} {b : Bool} {x y : IE} (h1 : b = true → SndO c C env e x k) (h2 : b = false → SndO c C env e y k) : SndO c C env e (cond b x y) k := P_cond (P := fun x => SndO c C env e x k) h1 h2
theorem snd_if {C : Oracle} {e : Expr} {b : Bool} {x : IE} (h1 : b = true → SndO c C env e x k) : SndO c C env e (cond b x .bad) k := snd_cond h1 fun _ => snd_bad
theorem snd_opt {C : Oracle} {e : Expr} {α : Type} {o : Option α} {x : IE} {F : α → IE} (h1 : SndO c C env e x k) (h2 : ∀ a, o = some a → SndO c C env e (F a) k) : SndO c C env e (optB x o F) k := P_opt (P := fun x => SndO c C env e x k) h1 h2
theorem sndL_map {C : Oracle} {F : Expr → IE} (hF : ∀ e, SndO c C env e (F e) k) {es : List Expr} (h : es.all noStar = true) : SndL c C env k es (es.map F) := by
  induction es with
  | nil => exact .nil
  | cons e es ih => exact .cons (starEach_no (and1 (List.all_cons ▸ h)) env) (hF e) (ih (and2 (List.all_cons ▸ h)))
theorem sndTL_map {C : Oracle} {F : Expr → IE} (hF : ∀ e, SndT c C env e (F e) k) (es : List Expr) : SndTL c C env k es (es.map F) := by
  induction es with
  | nil => exact .nil
  | cons e es ih => exact .cons (hF e) ih
theorem cVar_sound (w : WOK c) {x : Str} {pos : Pos} : SndO c C env (.Name x pos) (cVar env.scope x) k := by
  refine snd_cond (fun _ => snd_bad) fun hd => ?_
  have hd := Bool.or_eq_false_iff.mp hd
  refine snd_cond (fun hg => snd_opt snd_bad fun i hi => ?_) fun _ => snd_loc hd.1 hd.2
  obtain ⟨⟨tk, ht⟩, _⟩ := w.co (x, i) (lookup_mem hi)
  exact snd_gint (glob_of hg) ht hd.1
theorem cConst_sound {x : Const} {kk : Nat} {pos : Pos} : SndO c C env (.Constant x kk pos) (cConst x) k := by
  cases x with
  | int _ => exact snd_int
  | str _ => exact snd_str
  | bool _ => exact snd_bool
  | none => exact snd_none
  | _ => exact snd_bad
section
variable {F : Expr → IE}
theorem bi_at {n : Nat} {p : Str × Value} (h : tabBi[n]? = some p) : p ∈ tabBi := List.mem_of_getElem? h
theorem cIsb_sound (w : WOK c) (hF : ∀ e, SndO c C env e (F e) k) {f : Str} {p pos : Pos} {e g : Expr} (hg : glob? env.scope f = true) (hs : noStar e = true) : SndO c C env (.Call (.Name f p) [e, g] [] pos) (cIsb F env.scope f e g) k := by
  cases g with
  | Name T p' =>
    refine snd_if fun h => ?_
    obtain rfl : f = "isinstance" := eq_of_beq (and1 (and1 h))
    obtain rfl : T = "bool" := eq_of_beq (and2 (and1 h))
    exact snd_isbool (w.biOK (bi_at (n := 5) rfl) hg) (w.biOK (bi_at (n := 6) rfl) (and2 h)) (hF _) (starEach_no hs env)
  | _ => exact snd_bad
theorem cBi1_sound (w : WOK c) (hF : ∀ e, SndO c C env e (F e) k) {f : Str} {p pos : Pos} {e : Expr} (hg : glob? env.scope f = true) (hs : noStar e = true) : SndO c C env (.Call (.Name f p) [e] [] pos) (cBi1 F f e) k := by
  refine snd_cond (fun h => ?_) fun _ => snd_cond (fun h => ?_) fun _ => snd_if fun h => ?_
  · obtain rfl : f = "len" := eq_of_beq h
    exact snd_len (w.biOK (bi_at (n := 0) rfl) hg) (hF _) (starEach_no hs env)
  · obtain rfl : f = "tuple" := eq_of_beq h
    exact snd_tupl (w.biOK (bi_at (n := 2) rfl) hg) (hF _) (starEach_no hs env)
  · obtain rfl : f = "list" := eq_of_beq h
    exact snd_listc (w.biOK (bi_at (n := 1) rfl) hg) (hF _) (starEach_no hs env)
theorem cBi_sound (w : WOK c) (hF : ∀ e, SndO c C env e (F e) k) {f : Str} {p pos : Pos} {es : List Expr} (hg : glob? env.scope f = true) (hs : es.all noStar = true) : SndO c C env (.Call (.Name f p) es [] pos) (cBi F env.scope f es) k := by
  cases es with
  | nil =>
    refine snd_if fun h => ?_
    obtain rfl : f = "set" := eq_of_beq h
    exact snd_newset (w.biOK (bi_at (n := 3) rfl) hg)
  | cons e r =>
    have hs := and1 (List.all_cons ▸ hs)
    refine snd_opt (snd_if fun h => ?_) fun g hr => ?_
    · rw [nil_of h]; exact cBi1_sound w hF hg hs
    · rw [one_eq hr]; exact cIsb_sound w hF hg hs
end
section
variable {F : Expr → IE}
theorem cName_sound (w : WOK c) (hF : ∀ e, SndO c (Call c k) env e (F e) k) {f : Str} {p pos : Pos} {es : List Expr} : SndO c (Call c k) env (.Call (.Name f p) es [] pos) (cName F env.scope f es) k :=
  snd_if fun h => snd_cond (fun hf => snd_fn (w.fnOK (List.contains_iff_mem.mp hf) (and1 h)) (sndL_map hF (and2 h))) fun _ => snd_opt (cBi_sound w hF (and1 h) (and2 h)) fun cl hc => snd_new (w.clOK hc (and1 h)) (sndL_map hF (and2 h))
theorem look_mem {α β : Type} [BEq α] [LawfulBEq α] {l : List (α × β)} {x : α} {b : β} (h : l.lookup x = some b) : (x, b) ∈ l := by
  induction l with
  | nil => cases h
  | cons p r ih =>
    obtain ⟨n, d⟩ := p
    rw [List.lookup_cons] at h
    cases e : x == n with
    | true => rw [e] at h; cases h; rw [eq_of_beq e]; exact List.mem_cons_self
    | false => rw [e] at h; exact List.mem_cons_of_mem _ (ih h)
theorem base_eq {o : Expr} (h : isBase o = true) (m : Str) (env : Env) : attributeBase o m env (eval o env) = eval o env := by
  cases o with
  | Name _ _ => rfl
  | Attribute _ _ _ => rfl
  | _ => exact nb h
theorem cMeth_sound (w : WOK c) (hF : ∀ e, SndO c (Call c k) env e (F e) k) {o : Expr} {m : Str} {apos pos : Pos} {es : List Expr} : SndO c (Call c k) env (.Call (.Attribute o m apos) es [] pos) (cMeth F o m es (apos.endLine == pos.line)) k := by
  refine snd_if fun h => ?_
  have l := sndL_map hF (and2 (and1 (and1 h)))
  have hb := base_eq (and1 (and1 (and1 h))) m env
  have hn : (es.map F).length < 29 := by rw [List.length_map]; exact of_decide_eq_true (and2 (and1 h))
  exact snd_opt (snd_mb (hF _) l hn hb (and2 h)) fun cl hc => snd_met (w.me _ (look_mem hc)) (hF _) l hn hb (and2 h)
theorem cCall_sound (w : WOK c) (hF : ∀ e, SndO c (Call c k) env e (F e) k) {g : Expr} {pos : Pos} {es : List Expr} : SndO c (Call c k) env (.Call g es [] pos) (cCall F env.scope g es pos) k := by
  cases g with
  | Name f p => exact cName_sound w hF
  | Attribute o m apos => exact cMeth_sound w hF
  | _ => exact snd_bad
end
theorem namesT_sound {ok : Str → Bool} {okP : Str → Prop} (hok : ∀ x, ok x = true → okP x) {es : List Expr} : ∀ {xs : List Str}, namesT ok es = some xs → NamesG okP es xs := by
  induction es with
  | nil => intro xs h; cases h; exact .nil
  | cons e es ih =>
    intro xs h
    cases e with
    | Name x p =>
      have h : cond (ok x) ((namesT ok es).map (x :: ·)) none = some xs := h
      cases hk : ok x with
      | true =>
        rw [hk] at h
        obtain ⟨ys, hy, rfl⟩ := Option.map_eq_some_iff.mp (h : (namesT ok es).map (x :: ·) = some xs)
        exact .cons (hok x hk) (ih hy)
      | false => rw [hk] at h; cases h
    | _ => exact no h
theorem loc_of {x : Str} (h : loc? env.scope x = true) : LocOK env x := eq_of_beq h
theorem tgC_sound {env' : Env} {target : Expr} {tg : Tg} (h : tgC env'.scope target = some tg) : TgL env' target tg := by
  cases target with
  | Name x p =>
    have h : cond (loc? env'.scope x) (some (Tg.one x)) none = some tg := h
    cases hk : loc? env'.scope x with
    | true => rw [hk] at h; cases h; exact .one (loc_of hk)
    | false => rw [hk] at h; cases h
  | Tuple es kk p =>
    obtain ⟨ys, hy, rfl⟩ := Option.map_eq_some_iff.mp (h : (namesT (loc? env'.scope) es).map Tg.many = some tg)
    exact .many (namesT_sound (fun x hx => loc_of hx) hy)
  | _ => exact no h
theorem compOk_sound {scope : Scope} {tg : Tg} (h : compOk scope env.scope tg = true) : CompOK env scope (capsOf scope) ∧ ∀ x ∈ tgNames tg, x ∉ capsOf scope := by
  unfold compOk at h
  simp only [Bool.and_eq_true, List.all_eq_true, Bool.or_eq_true, beq_iff_eq, bne_iff_ne] at h
  obtain ⟨⟨⟨⟨h1, h2⟩, h3⟩, h4⟩, h5⟩ := h
  refine ⟨⟨h1, h2, fun x hx hl => (h3 x hx).resolve_left fun n => n hl, fun x hx => ((h4 _ hx).resolve_left fun n => n rfl).1, fun x hx => ?_⟩, fun x hx hc => ?_⟩
  · obtain ⟨⟨y, ky⟩, hy, rfl⟩ := List.mem_map.mp hx
    rw [List.mem_filter] at hy
    obtain ⟨hy, hk⟩ := hy
    obtain rfl : ky = NameKind.free := eq_of_beq hk
    exact ⟨hy, ((h4 _ hy).resolve_left fun n => n rfl).2⟩
  · obtain ⟨⟨y, ky⟩, hy, rfl⟩ := List.mem_map.mp hc
    rw [List.mem_filter] at hy
    obtain ⟨hy, hk⟩ := hy
    obtain rfl : ky = NameKind.free := eq_of_beq hk
    exact ((h5 _ hx _ hy).resolve_left fun n => n rfl) rfl
inductive CompSnd (c : Cx) (C : Oracle) (env : Env) (elt target iter : Expr) (scope : Scope) (k : Nat) : IE → Prop
  | bad : CompSnd c C env elt target iter scope k .bad
  | ok {tg : Tg} {ie ir : IE} {caps : List Str} (O : CompOK env scope caps) (S : CompSrc c C env target iter ie tg caps ir k) (hT : ∀ cl Cl, TgL (compEnvC scope cl Cl env) target tg) (he : ∀ cl Cl, SndO c C (compEnvC scope cl Cl env) elt ie k)
    (hn : ∀ x ∈ tgNames tg, x ∉ caps) (hs : isSet iter = false) : CompSnd c C env elt target iter scope k ir
theorem folded_no {iter : Expr} (h : isSet iter = false) (x : Value) : foldedSetIterable iter env x = pure x := by
  cases iter with
  | Set _ _ _ => exact nb h.symm
  | _ => rfl
inductive RngR (sc : Scope) (es : List Expr) : Expr → Prop
  | mk {p pos : Pos} (hg : glob? sc "range" = true) (hs : es.all noStar = true) : RngR sc es (.Call (.Name "range" p) es [] pos)
theorem rng_eq {sc : Scope} {iter : Expr} {es : List Expr} (h : rngArgs sc iter = some es) : RngR sc es iter := by
  cases iter with
  | Call g as kws pos =>
    cases g with
    | Name f p =>
      have h : cond (f == "range" && glob? sc f && kws.isEmpty && as.all noStar) (some as) none = some es := h
      cases hc : (f == "range" && glob? sc f && kws.isEmpty && as.all noStar) with
      | true =>
        rw [hc] at h; cases h
        obtain rfl : f = "range" := eq_of_beq (and1 (and1 (and1 hc)))
        rw [nil_of (and2 (and1 hc))]
        exact .mk (and2 (and1 (and1 hc))) (and2 hc)
      | false => rw [hc] at h; cases h
    | _ => exact no h
  | _ => exact no h
theorem cComp_sound (w : WOK c) {F : Expr → IE} {G : Scope → Expr → IE} (hF : ∀ e, SndO c C env e (F e) k) (hG : ∀ (env' : Env) e, SndO c C env' e (G env'.scope e) k) {elt target iter : Expr} {scope : Scope} :
    CompSnd c C env elt target iter scope k (cComp F G env.scope elt scope target iter) := by
  refine P_opt .bad fun tg ht => P_cond (P := CompSnd c C env elt target iter scope k) (fun hc => ?_) fun _ => .bad
  obtain ⟨O, hn⟩ := compOk_sound hc
  have hT : ∀ cl Cl, TgL (compEnvC scope cl Cl env) target tg := fun cl Cl => tgC_sound (env' := compEnvC scope cl Cl env) ht
  have he : ∀ cl Cl, SndO c C (compEnvC scope cl Cl env) elt (G (relabelS scope env.scope) elt) k := fun cl Cl => hG (compEnvC scope cl Cl env) elt
  have lcE : CompSnd c C env elt target iter scope k (cond (isSet iter) .bad (.lcE (G (relabelS scope env.scope) elt) tg (F iter) (capsOf scope))) := P_cond (P := CompSnd c C env elt target iter scope k) (fun _ => .bad) fun hs => .ok O (src_lcE (hF _) (hT [] 0)) hT he hn hs
  cases tg with
  | many xs => exact lcE
  | one x =>
    refine P_opt lcE fun e h => ?_
    obtain ⟨es, h1, h2⟩ := Option.bind_eq_some_iff.mp h
    cases rng_eq h1 with
    | mk hg hs =>
      obtain rfl := one_eq h2
      exact .ok O (src_lcR (w.biOK (bi_at (n := 4) rfl) hg) (hF _) (starEach_no (and1 (List.all_cons ▸ hs)) env) (hT [] 0)) hT he hn rfl
inductive GenR (F : Expr → IE) (G : Scope → Expr → IE) (sc : Scope) (elt : Expr) (scope : Scope) (g : Comprehension) : IE → Prop
  | bad : GenR F G sc elt scope g .bad
  | mk {target iter : Expr} (e : g = ⟨target, iter, [], 0⟩) : GenR F G sc elt scope g (cComp F G sc elt scope target iter)
theorem cGen_eq (F : Expr → IE) (G : Scope → Expr → IE) (sc : Scope) (elt : Expr) (scope : Scope) (g : Comprehension) : GenR F G sc elt scope g (cGen F G sc elt scope g) := by
  obtain ⟨target, iter, ifs, a⟩ := g
  refine P_cond (P := GenR F G sc elt scope ⟨target, iter, ifs, a⟩) (fun h => .mk ?_) fun _ => .bad
  rw [nil_of (and1 h), show a = 0 from eq_of_beq (and2 h)]
theorem att_base {a : Expr} (h : isBase a = true) (x : Str) (pos : Pos) (env : Env) : eval (.Attribute a x pos) env = (do
      let o ← eval a env
      standAt pos.atName
      let r ← holding [o] (getAttr o x true)
      letTemporaryGo a o r
      pure r) := by
  cases a with
  | Name _ _ => rfl
  | Attribute _ _ _ => rfl
  | _ => exact nb h
section
variable {F : Expr → IE}
theorem cSl_sound (hF : ∀ e, SndO c C env e (F e) k) {a : Expr} {lo hi st : Option Expr} {p pos : Pos} : SndO c C env (.Subscript a (.Slice lo hi st p) pos) (cSl F (F a) lo hi st) k := by
  cases st with
  | some _ => exact snd_bad
  | none =>
    cases lo with
    | none => exact snd_opt snd_bad fun h e => by subst e; exact snd_slcHi (hF _) (hF _)
    | some l =>
      refine snd_if fun h => ?_
      cases hi with
      | none => exact snd_slcLo (hF _) (hF _)
      | some _ => cases h
theorem cSub_sound (hF : ∀ e, SndO c C env e (F e) k) {a i : Expr} {pos : Pos} : SndO c C env (.Subscript a i pos) (cSub F (F a) i) k := by
  cases i with
  | Slice lo hi st p => exact cSl_sound hF
  | _ => exact snd_sub (hF _) (hF _) fun _ _ => rfl
theorem cCmp_sound (hF : ∀ e, SndO c C env e (F e) k) {a : Expr} {ops : List CmpOp} {bs : List Expr} {pos : Pos} : SndO c C env (.Compare a ops bs pos) (cCmp F (F a) ops bs) k :=
  snd_opt snd_bad fun op h1 => snd_opt snd_bad fun b h2 => snd_cond (fun _ => snd_bad) fun h => by rw [one_eq h1, one_eq h2]; exact snd_cmp (hF _) (hF _) h
theorem cBool_sound (hF : ∀ e, SndO c C env e (F e) k) {op : BoolOp} {es : List Expr} {pos : Pos} : SndO c C env (.BoolOp op es pos) (cBool F op es) k := by
  cases es with
  | nil => exact snd_bad
  | cons e r =>
    refine snd_if fun h => ?_
    cases op with
    | And => exact snd_And (hF _) (sndL_map hF h)
    | Or => exact snd_Or (hF _) (sndL_map hF h)
theorem cUn_sound (hF : ∀ e, SndO c C env e (F e) k) {op : UnaryOp} {a : Expr} {pos : Pos} : SndO c C env (.UnaryOp op a pos) (cUn op (F a) (F a)) k := by
  cases op with
  | Not => exact snd_not (hF _)
  | USub => exact snd_neg (hF _)
  | _ => exact snd_bad
end
section
variable {E T : Scope → Expr → IE}
theorem stepE_sound (w : WOK c) (ihE : ∀ (env : Env) (e : Expr), SndO c (Call c k) env e (E env.scope e) k) (ihT : ∀ (env : Env) (e : Expr), SndT c (Call c k) env e (T env.scope e) k) {e : Expr} : SndO c (Call c k) env e (stepE E T env.scope e) k := by
  cases e with
  | Name x p => exact cVar_sound w
  | Constant x kk p => exact cConst_sound
  | Tuple es kk p => exact snd_if fun h => snd_tup (sndL_map (ihE env) (and2 h)) (by rw [List.length_map]; exact of_decide_eq_true (and1 h))
  | List es p => exact snd_if fun h => snd_lst (sndL_map (ihE env) (and2 h)) (by rw [List.length_map]; exact of_decide_eq_true (and1 h))
  | Dict ks vs p => exact snd_if fun h => by rw [nil_of (and1 h), nil_of (and2 h)]; exact snd_dct
  | UnaryOp op a p => exact cUn_sound (ihE env)
  | BinOp a op b p => exact snd_bin (ihE env _) (ihE env _)
  | Compare a ops bs p => exact cCmp_sound (ihE env)
  | BoolOp op es p => exact cBool_sound (ihE env)
  | IfExp t a b p => exact snd_ite (ihT env _) (ihE env _) (ihE env _)
  | Subscript a i p => exact cSub_sound (ihE env)
  | Attribute a x p => exact snd_if fun h => snd_att (w.att _ (List.contains_iff_mem.mp (and2 h))) (ihE env _) (att_base (and1 h) _ _ _)
  | Call g es kws p => exact snd_if fun h => by rw [nil_of h]; exact cCall_sound w (ihE env)
  | ListComp elt gens scope p =>
    refine snd_opt snd_bad fun g hg => ?_
    rw [one_eq hg]
    generalize cGen (E env.scope) E env.scope elt scope g = ir, cGen_eq (E env.scope) E env.scope elt scope g = W
    cases W with
    | bad => exact snd_bad
    | @mk target iter e =>
      subst e
      have h := cComp_sound w (ihE env) ihE (elt := elt) (target := target) (iter := iter) (scope := scope)
      generalize cComp (E env.scope) E env.scope elt scope target iter = ir at h
      cases h with
      | bad => exact snd_bad
      | ok O S hT he hn hs => exact snd_comp O S (folded_no hs) hT he hn
  | _ => exact snd_bad
theorem sndT_cond {C : Oracle} {e : Expr} {b : Bool} {x y : IE} (h1 : b = true → SndT c C env e x k) (h2 : b = false → SndT c C env e y k) : SndT c C env e (cond b x y) k := P_cond (P := fun x => SndT c C env e x k) h1 h2
theorem sndT_opt {C : Oracle} {e : Expr} {α : Type} {o : Option α} {x : IE} {F : α → IE} (h1 : SndT c C env e x k) (h2 : ∀ a, o = some a → SndT c C env e (F a) k) : SndT c C env e (optB x o F) k := P_opt (P := fun x => SndT c C env e x k) h1 h2
theorem cChn_sound {C : Oracle} {F : Expr → IE} (hF : ∀ e, SndO c C env e (F e) k) {a : Expr} {ops : List CmpOp} {bs : List Expr} {pos : Pos} : SndT c C env (.Compare a ops bs pos) (cChn F (F a) ops bs) k := by
  refine sndT_opt (sndT_opt sndT_bad fun op h1 => sndT_opt sndT_bad fun b h2 => sndT_cond (fun _ => sndT_bad) fun h => by rw [one_eq h1, one_eq h2]; exact sndT_cmp (hF _) (hF _) h) fun o h1 => sndT_opt sndT_bad fun b h2 => sndT_cond (fun _ => sndT_bad) fun h => ?_
  rw [two_eq h1, two_eq h2]
  refine sndT_chn (hF _) (hF _) (hF _) ?_
  show _ :: [markedBehindIn _ _ _] = _
  rw [markedBehindIn_of_false h]
theorem cBoolT_sound {C : Oracle} {F : Expr → IE} (hF : ∀ e, SndT c C env e (F e) k) {op : BoolOp} {es : List Expr} {pos : Pos} : SndT c C env (.BoolOp op es pos) (cBool F op es) k := by
  cases es with
  | nil => exact sndT_bad
  | cons e r =>
    refine sndT_cond (fun _ => ?_) fun _ => sndT_bad
    cases op with
    | And => exact sndT_And (hF _) (sndTL_map hF _)
    | Or => exact sndT_Or (hF _) (sndTL_map hF _)
theorem stepT_sound (ihE : ∀ (env : Env) (e : Expr), SndO c (Call c k) env e (E env.scope e) k) (ihT : ∀ (env : Env) (e : Expr), SndT c (Call c k) env e (T env.scope e) k) {e : Expr} : SndT c (Call c k) env e (stepT E T env.scope e) k := by
  cases e with
  | UnaryOp op a p =>
    cases op with
    | Not => exact sndT_not (ihT env _)
    | _ => exact sndT_bad
  | BoolOp op es p => exact cBoolT_sound (ihT env)
  | IfExp t a b p => exact sndT_ite (ihT env _) (ihT env _) (ihT env _)
  | Compare a ops bs p => exact cChn_sound (ihE env)
  | _ => exact sndT_plain (fun _ => rfl) (ihE env _)
end
structure TwoOK (c : Cx) (k : Nat) (t : Two) : Prop where
  E : ∀ (env : Env) (e : Expr), SndO c (Call c k) env e (t.E env.scope e) k
  T : ∀ (env : Env) (e : Expr), SndT c (Call c k) env e (t.T env.scope e) k
theorem cET_sound (w : WOK c) (n : Nat) : TwoOK c k (cET n) := by
  induction n with
  | zero => exact ⟨fun env e => snd_bad, fun env e => sndT_bad⟩
  | succ n ih => exact ⟨fun env e => stepE_sound w ih.E ih.T, fun env e => stepT_sound ih.E ih.T⟩
end
section
variable {prog : Program} {w : World} {A : Around} {E : Value → Shared → Prop} {s : Shared}
theorem wpAny_alive {M : Model} {a : Addr} {Q : Option Obj → Shared → Prop} (h : Q (s.heap.get? a) s) : wpAny M A (loadIfAlive a) Q E s := fun _ _ _ => h
theorem next_tuple_item {it t : Addr} {i : Nat} {items : Array Value} {x : Value} {Q : Value → Shared → Prop} (hit : s.heap.IsTupleIter it t i) (ht : s.heap.IsTuple t items) (hx : items[i]? = some x)
    (hQ : ∀ h', h'.IsTupleIter it t (i + 1) → Heap.SameBut it s.heap h' → Q x { s with heap := h' }) : wpAny (model prog w) A (Builtin.SmallTypes.nextOf (.ref it)) Q E s := by
  obtain ⟨o, ho, hc, hd⟩ := id hit
  obtain ⟨ol, hol, _, nl, hdl⟩ := ht
  unfold Builtin.SmallTypes.nextOf
  refine wpAny_bind (wpAny_callSpecial?_slot (name := Str.ofString "__next__") hit.typeIs PySem.F.slot_tuple_iterator_next
    (wpAny_call_entry PySem.F.slot_tuple_iterator_next hit.typeIs PySem.F.entry_tuple_iterator_next ?_ (PySem.F.args_tuple_iterator_next_1 _)))
  show wpAny _ _ (field (.ref it) 0 >>= _) _ _ s
  refine wpAny_bind (wpAny_field ho hd (x := .ref t) rfl ?_)
  show wpAny _ _ (if (Value.ref t == Value.none) = true then _ else _) _ _ s
  rw [if_neg (show ¬ ((Value.ref t == Value.none) = true) from Bool.false_ne_true)]
  show wpAny _ _ (field (.ref it) 1 >>= _) _ _ s
  refine wpAny_bind (wpAny_field ho hd (x := .int i 0) rfl ?_)
  show wpAny _ _ (seqItems? (.ref t) >>= _) _ _ s
  refine wpAny_bind (wpAny_seqItems hol hdl ?_)
  simp only [Int.toNat_natCast, hx]
  refine wpAny_bind (wpAny_setField ho hd (by simp) (wpAny_pure ⟨x, rfl, wpAny_pure (hQ _ ?_ (Heap.SameBut.update ..))⟩))
  exact ⟨_, Heap.get?_update_self _ ho (Obj.isFreed_of_fields (Obj.data_mapFields hd _)), (Obj.cls_mapFields ..).trans hc, by rw [Obj.data_mapFields hd]; simp [rawInt]⟩
theorem next_tuple_end {it t : Addr} {i : Nat} {items : Array Value} {Q : Value → Shared → Prop} (hh : A.handled = none) (hit : s.heap.IsTupleIter it t i) (ht : s.heap.IsTuple t items) (hx : items[i]? = none)
    (hE : ∀ h' e, Heap.ExtBut it s.heap h' → (∃ o, h'.get? e = some o ∧ o.cls = .type "StopIteration") → E (.ref e) { s with heap := h' }) : wpAny (model prog w) A (Builtin.SmallTypes.nextOf (.ref it)) Q E s := by
  obtain ⟨o, ho, hc, hd⟩ := id hit
  obtain ⟨ol, hol, _, nl, hdl⟩ := ht
  unfold Builtin.SmallTypes.nextOf
  refine wpAny_bind (wpAny_callSpecial?_slot (name := Str.ofString "__next__") hit.typeIs PySem.F.slot_tuple_iterator_next
    (wpAny_call_entry PySem.F.slot_tuple_iterator_next hit.typeIs PySem.F.entry_tuple_iterator_next ?_ (PySem.F.args_tuple_iterator_next_1 _)))
  show wpAny _ _ (field (.ref it) 0 >>= _) _ _ s
  refine wpAny_bind (wpAny_field ho hd (x := .ref t) rfl ?_)
  show wpAny _ _ (if (Value.ref t == Value.none) = true then _ else _) _ _ s
  rw [if_neg (show ¬ ((Value.ref t == Value.none) = true) from Bool.false_ne_true)]
  show wpAny _ _ (field (.ref it) 1 >>= _) _ _ s
  refine wpAny_bind (wpAny_field ho hd (x := .int i 0) rfl ?_)
  show wpAny _ _ (seqItems? (.ref t) >>= _) _ _ s
  refine wpAny_bind (wpAny_seqItems hol hdl ?_)
  simp only [Int.toNat_natCast, hx]
  refine wpAny_bind (wpAny_rule (wpAny_bind (wpAny_setField ho hd (by simp) ?_)))
  show wpAny _ _ (newExc (.type "StopIteration") [] >>= _) _ _ _
  refine wpAny_bind ?_
  simp only [newExc, newTuple]
  refine wpAny_bind (wpAny_newObj_type ?_ (by size_fits))
  refine wpAny_bind (m := firstArgMember _ _) (wpAny_of_eq (a := Value.none) (by first | rfl | (simp only [firstArgMember]; rfl)) ?_)
  refine wpAny_newObj_type ?_ (by size_fits)
  simp only [raiseNew]
  refine wpAny_bind (wpAny_handled ?_)
  first | rw [show A.in1.handled = none from hh] | rw [hh]
  refine wpAny_bind (wpAny_pure (wpAny_throw ?_))
  exact hE _ _ (((Heap.SameBut.update ..).extBut.push _).push _) ⟨_, Heap.get?_push_size _ rfl, rfl⟩
def ZipO (h : Heap) (z TI TO : Addr) (f0 f1 : Value) : Prop :=
  h.get? z = some { cls := .type "zip", dict := none, data := .fields #[f0, f1, .bool false, .ref TI, .ref TO], slots := #[] }
theorem zip_free {z : Addr} {TI TO T : Addr} {f1 : Value} {oT : Obj} (hz : ZipO s.heap z TI TO (rawInt T) f1) (hf : f1 = .bool true ∨ f1 = .bool false) (hT : s.heap.get? T = some oT) (hTz : T ≠ z) {Q : Bool → Shared → Prop}
    (hQ : ∀ h', ZipO h' z TI TO (rawInt T) (.bool true) → Heap.SameBut z s.heap h' → Q false { s with heap := h' }) : wpAny (model prog w) A (Builtin.SmallTypes.ownedTupleIsFree (.ref z)) Q E s := by
  unfold Builtin.SmallTypes.ownedTupleIsFree
  refine wpAny_bind (wpAny_field hz rfl (x := rawInt T) rfl ?_)
  show wpAny _ _ (loadIfAlive (Int.toNat (T : Int)) >>= _) _ _ _
  rw [Int.toNat_natCast]
  refine wpAny_bind (wpAny_alive ?_)
  rw [hT]
  show wpAny _ _ (field (.ref z) 1 >>= _) _ _ _
  refine wpAny_bind (wpAny_field hz rfl (x := f1) rfl ?_)
  rcases hf with rfl | rfl
  · exact wpAny_pure (hQ s.heap hz (Heap.SameBut.refl ..))
  · show wpAny _ _ (setField (.ref z) 1 (.bool true) >>= _) _ _ _
    refine wpAny_bind (wpAny_setField_rec hz (by simp) fun h' hz' hs' => wpAny_pure (hQ h' hz' hs'))
def ZipPost (s : Shared) (z TI TO i1 i2 t1 t2 : Addr) (k : Nat) (x y : Value) (Q : Value → Shared → Prop) : Prop :=
  ∀ (h' : Heap) (T : Addr) (f1 : Value), ZipO h' z TI TO (rawInt T) f1 → (f1 = .bool true ∨ f1 = .bool false) → (∃ o, h'.get? T = some o) → T ≠ z → T ≠ TO → T ≠ i1 → T ≠ i2 → h'.IsTupleIter i1 t1 (k + 1) → h'.IsTupleIter i2 t2 (k + 1) →
    h'.get? s.heap.objs.size = some ({ cls := .type "tuple", data := .seq #[x, y] } : Obj) → (∀ c o, c ≠ z → c ≠ TO → c ≠ i1 → c ≠ i2 → s.heap.get? c = some o → h'.get? c = some o) → Q (.ref s.heap.objs.size) { s with heap := h' }
theorem zip_first {z TI TO i1 i2 l1 l2 : Addr} {k : Nat} {xs ys : Array Value} {x y a b : Value} {Q : Value → Shared → Prop} (D : ZipApart z TI TO i1 i2 l1 l2)
    (hz : ZipO s.heap z TI TO .none (.bool false)) (hTI : IsPair s.heap TI (.ref i1) (.ref i2)) (hTO : IsPair s.heap TO a b)
    (h1 : s.heap.IsTupleIter i1 l1 k) (h2 : s.heap.IsTupleIter i2 l2 k) (hl1 : s.heap.IsTuple l1 xs) (hl2 : s.heap.IsTuple l2 ys) (hx : xs[k]? = some x) (hy : ys[k]? = some y) (hQ : ZipPost s z TI TO i1 i2 l1 l2 k x y Q) :
    wpAny (model prog w) A (Builtin.«zip.__next__» ⟨[.ref z], []⟩) (fun fin s' => ∃ v, fin = .done (.ret v) ∧ Q v s') E s := by
  show wpAny _ _ (field (.ref z) 2 >>= _) _ _ _
  refine wpAny_bind (wpAny_field hz rfl (x := .bool false) rfl ?_)
  show wpAny _ _ (field (.ref z) 3 >>= _) _ _ _
  refine wpAny_bind (wpAny_field hz rfl (x := .ref TI) rfl ?_)
  refine wpAny_bind (wpAny_seqItems hTI rfl ?_)
  show wpAny _ _ (Builtin.SmallTypes.ownedTupleIsFree (.ref z) >>= _) _ _ _
  refine wpAny_bind ?_
  unfold Builtin.SmallTypes.ownedTupleIsFree
  refine wpAny_bind (wpAny_field hz rfl (x := .none) rfl (wpAny_pure ?_))
  simp only [if_true]
  refine wpAny_bind (wpAny_rule ?_)
  refine wpAny_bind (wpAny_field hz rfl (x := .ref TO) rfl ?_)
  refine wpAny_bind (wpAny_setField_rec hz (by simp) fun h₁ hz₁ hs₁ => ?_)
  replace hz₁ : ZipO h₁ z TI TO .ellipsis (.bool false) := hz₁
  refine wpAny_bind ?_
  simp only [List.zipIdx_cons, List.zipIdx_nil, List.forIn_cons, List.forIn_nil]
  refine wpAny_bind (wpAny_bind (wpAny_onRaise ?_))
  show wpAny _ _ (Builtin.SmallTypes.nextOf (.ref i1) >>= _) _ _ _
  refine wpAny_bind (next_tuple_item (h1.extBut hs₁.extBut D.i1z) (hl1.extBut hs₁.extBut D.l1z) hx fun h₂ h1₂ hs₂ => wpAny_pure ?_)
  have hTO₂ : IsPair h₂ TO a b := hs₂.extBut _ _ D.TOi1 (hs₁.extBut _ _ D.TOz hTO)
  refine wpAny_bind (wpAny_seqItems hTO₂ rfl ?_)
  refine wpAny_bind (wpAny_updateSeq_pair hTO₂ fun h₃ hTO₃ hs₃ => ?_)
  replace hTO₃ : IsPair h₃ TO x b := hTO₃
  refine wpAny_bind (wpAny_letGo (wpAny_pure ?_))
  refine wpAny_bind (wpAny_bind (wpAny_onRaise ?_))
  show wpAny _ _ (Builtin.SmallTypes.nextOf (.ref i2) >>= _) _ _ _
  refine wpAny_bind (next_tuple_item (((h2.extBut hs₁.extBut D.i2z).extBut hs₂.extBut D.i12.symm).extBut hs₃.extBut D.TOi2.symm)
    (((hl2.extBut hs₁.extBut D.l2z).extBut hs₂.extBut D.l2i1).extBut hs₃.extBut D.l2TO) hy fun h₄ h2₄ hs₄ => wpAny_pure ?_)
  have hTO₄ : IsPair h₄ TO x b := hs₄.extBut _ _ D.TOi2 hTO₃
  refine wpAny_bind (wpAny_seqItems hTO₄ rfl ?_)
  refine wpAny_bind (wpAny_updateSeq_pair hTO₄ fun h₅ hTO₅ hs₅ => ?_)
  replace hTO₅ : IsPair h₅ TO x y := hTO₅
  refine wpAny_bind (wpAny_letGo (wpAny_pure (wpAny_pure ?_)))
  refine wpAny_bind (wpAny_seqItems hTO₅ rfl ?_)
  refine wpAny_bind (wpAny_newTuple ?_)
  have hsz : h₅.objs.size = s.heap.objs.size := by rw [hs₅.1, hs₄.1, hs₃.1, hs₂.1, hs₁.1]
  have hz₅ : ZipO h₅ z TI TO .ellipsis (.bool false) := hs₅.extBut _ _ D.TOz.symm (hs₄.extBut _ _ D.i2z.symm (hs₃.extBut _ _ D.TOz.symm (hs₂.extBut _ _ D.i1z.symm hz₁)))
  have hk₅ : ∀ c o, c ≠ z → c ≠ TO → c ≠ i1 → c ≠ i2 → s.heap.get? c = some o → h₅.get? c = some o := fun c o c1 c2 c3 c4 e =>
    hs₅.extBut _ _ c2 (hs₄.extBut _ _ c4 (hs₃.extBut _ _ c2 (hs₂.extBut _ _ c3 (hs₁.extBut _ _ c1 e))))
  have h1₅ : h₅.IsTupleIter i1 l1 (k + 1) := ((h1₂.extBut hs₃.extBut D.TOi1.symm).extBut hs₄.extBut D.i12).extBut hs₅.extBut D.TOi1.symm
  have h2₅ : h₅.IsTupleIter i2 l2 (k + 1) := h2₄.extBut hs₅.extBut D.TOi2.symm
  have hzlt : z < h₅.objs.size := Heap.lt_size hz₅
  have hTOlt : TO < h₅.objs.size := Heap.lt_size hTO₅
  have hi1lt : i1 < h₅.objs.size := by obtain ⟨_, e, _⟩ := h1₅; exact Heap.lt_size e
  have hi2lt : i2 < h₅.objs.size := by obtain ⟨_, e, _⟩ := h2₅; exact Heap.lt_size e
  show wpAny _ _ (Builtin.SmallTypes.ownedTupleHandOut (.ref z) (.ref h₅.objs.size) >>= _) _ _ _
  refine wpAny_bind ?_
  unfold Builtin.SmallTypes.ownedTupleHandOut
  have hz₆ : ZipO (h₅.push { cls := .type "tuple", data := .seq #[x, y] }) z TI TO .ellipsis (.bool false) := Heap.get?_push_of_some _ hz₅
  refine wpAny_bind (wpAny_setField_rec hz₆ (by simp) fun h₇ hz₇ hs₇ => ?_)
  replace hz₇ : ZipO h₇ z TI TO (rawInt h₅.objs.size) (.bool false) := hz₇
  refine wpAny_setField_rec hz₇ (by simp) fun h₈ hz₈ hs₈ => ?_
  replace hz₈ : ZipO h₈ z TI TO (rawInt h₅.objs.size) (.bool false) := hz₈
  have up : ∀ c o, c ≠ z → h₅.get? c = some o → h₈.get? c = some o := fun c o c1 e => hs₈.extBut _ _ c1 (hs₇.extBut _ _ c1 (Heap.get?_push_of_some _ e))
  have hT₈ : IsPair h₈ h₅.objs.size x y := hs₈.extBut _ _ (Nat.ne_of_gt hzlt) (hs₇.extBut _ _ (Nat.ne_of_gt hzlt) (Heap.get?_push_size _ rfl))
  refine wpAny_pure ⟨_, rfl, ?_⟩
  show Q (.ref h₅.objs.size) _
  rw [hsz] at hz₈ hT₈ ⊢
  rw [hsz] at hzlt hTOlt hi1lt hi2lt
  exact hQ h₈ s.heap.objs.size _ hz₈ (.inr rfl) ⟨_, hT₈⟩ (Nat.ne_of_gt hzlt) (Nat.ne_of_gt hTOlt) (Nat.ne_of_gt hi1lt) (Nat.ne_of_gt hi2lt) (h1₅.at fun o e => up _ o D.i1z e) (h2₅.at fun o e => up _ o D.i2z e) hT₈ fun c o c1 c2 c3 c4 e => up c o c1 (hk₅ c o c1 c2 c3 c4 e)
theorem zip_more {z TI TO i1 i2 l1 l2 T : Addr} {f1 : Value} {oT : Obj} {k : Nat} {xs ys : Array Value} {x y : Value} {Q : Value → Shared → Prop} (D : ZipApart z TI TO i1 i2 l1 l2)
    (hz : ZipO s.heap z TI TO (rawInt T) f1) (hf : f1 = .bool true ∨ f1 = .bool false) (hT : s.heap.get? T = some oT) (hTz : T ≠ z) (hTTO : T ≠ TO) (hTi1 : T ≠ i1) (hTi2 : T ≠ i2) (hTI : IsPair s.heap TI (.ref i1) (.ref i2))
    (h1 : s.heap.IsTupleIter i1 l1 k) (h2 : s.heap.IsTupleIter i2 l2 k) (hl1 : s.heap.IsTuple l1 xs) (hl2 : s.heap.IsTuple l2 ys) (hx : xs[k]? = some x) (hy : ys[k]? = some y) (hQ : ZipPost s z TI TO i1 i2 l1 l2 k x y Q) :
    wpAny (model prog w) A (Builtin.«zip.__next__» ⟨[.ref z], []⟩) (fun fin s' => ∃ v, fin = .done (.ret v) ∧ Q v s') E s := by
  show wpAny _ _ (field (.ref z) 2 >>= _) _ _ _
  refine wpAny_bind (wpAny_field hz rfl (x := .bool false) rfl ?_)
  show wpAny _ _ (field (.ref z) 3 >>= _) _ _ _
  refine wpAny_bind (wpAny_field hz rfl (x := .ref TI) rfl ?_)
  refine wpAny_bind (wpAny_seqItems hTI rfl ?_)
  show wpAny _ _ (Builtin.SmallTypes.ownedTupleIsFree (.ref z) >>= _) _ _ _
  refine wpAny_bind (zip_free hz hf hT hTz fun h₁ hz₁ hs₁ => ?_)
  simp only [Bool.false_eq_true, if_false]
  refine wpAny_bind ?_
  simp only [List.forIn_toArray, List.forIn_cons, List.forIn_nil]
  refine wpAny_bind (wpAny_bind (wpAny_holding ?_))
  show wpAny _ _ (Builtin.SmallTypes.nextOf (.ref i1) >>= _) _ _ _
  refine wpAny_bind (next_tuple_item (h1.extBut hs₁.extBut D.i1z) (hl1.extBut hs₁.extBut D.l1z) hx fun h₂ h1₂ hs₂ => wpAny_pure ?_)
  refine wpAny_pure ?_
  refine wpAny_bind (wpAny_bind (wpAny_holding ?_))
  show wpAny _ _ (Builtin.SmallTypes.nextOf (.ref i2) >>= _) _ _ _
  refine wpAny_bind (next_tuple_item ((h2.extBut hs₁.extBut D.i2z).extBut hs₂.extBut D.i12.symm) ((hl2.extBut hs₁.extBut D.l2z).extBut hs₂.extBut D.l2i1) hy fun h₃ h2₃ hs₃ => wpAny_pure ?_)
  refine wpAny_pure (wpAny_pure ?_)
  refine wpAny_bind (wpAny_newTuple ?_ (show 2 ≤ sizeLine by decide))
  have hsz : h₃.objs.size = s.heap.objs.size := by rw [hs₃.1, hs₂.1, hs₁.1]
  have up : ∀ c o, c ≠ z → c ≠ i1 → c ≠ i2 → s.heap.get? c = some o → (h₃.push { cls := .type "tuple", data := .seq #[x, y] }).get? c = some o := fun c o c1 c2 c3 e =>
    Heap.get?_push_of_some _ (hs₃.extBut _ _ c3 (hs₂.extBut _ _ c2 (hs₁.extBut _ _ c1 e)))
  refine wpAny_pure ⟨_, rfl, ?_⟩
  show Q (.ref h₃.objs.size) _
  have hp : (h₃.push { cls := .type "tuple", data := .seq #[x, y] }).get? h₃.objs.size = some ({ cls := .type "tuple", data := .seq #[x, y] } : Obj) := Heap.get?_push_size _ rfl
  rw [hsz] at hp ⊢
  exact hQ _ T _ (Heap.get?_push_of_some _ (hs₃.extBut _ _ D.i2z.symm (hs₂.extBut _ _ D.i1z.symm hz₁))) (.inl rfl) ⟨_, up _ _ hTz hTi1 hTi2 hT⟩ hTz hTTO hTi1 hTi2
    ((h1₂.extBut hs₃.extBut D.i12).at fun o e => Heap.get?_push_of_some _ e) (h2₃.at fun o e => Heap.get?_push_of_some _ e) hp fun c o c1 c2 c3 c4 e => up c o c1 c3 c4 e
theorem zip_end {z TI TO i1 i2 l1 l2 T : Addr} {f1 : Value} {oT : Obj} {k : Nat} {xs : Array Value} {Q : Fin → Shared → Prop} (hh : A.handled = none) (D : ZipApart z TI TO i1 i2 l1 l2)
    (hz : ZipO s.heap z TI TO (rawInt T) f1) (hf : f1 = .bool true ∨ f1 = .bool false) (hT : s.heap.get? T = some oT) (hTz : T ≠ z) (hTI : IsPair s.heap TI (.ref i1) (.ref i2))
    (h1 : s.heap.IsTupleIter i1 l1 k) (hl1 : s.heap.IsTuple l1 xs) (hx : xs[k]? = none)
    (hE : ∀ h' e, (∀ c o, c ≠ z → c ≠ i1 → s.heap.get? c = some o → h'.get? c = some o) → (∃ o, h'.get? e = some o ∧ o.cls = .type "StopIteration") → E (.ref e) { s with heap := h' }) :
    wpAny (model prog w) A (Builtin.«zip.__next__» ⟨[.ref z], []⟩) Q E s := by
  show wpAny _ _ (field (.ref z) 2 >>= _) _ _ _
  refine wpAny_bind (wpAny_field hz rfl (x := .bool false) rfl ?_)
  show wpAny _ _ (field (.ref z) 3 >>= _) _ _ _
  refine wpAny_bind (wpAny_field hz rfl (x := .ref TI) rfl ?_)
  refine wpAny_bind (wpAny_seqItems hTI rfl ?_)
  show wpAny _ _ (Builtin.SmallTypes.ownedTupleIsFree (.ref z) >>= _) _ _ _
  refine wpAny_bind (zip_free hz hf hT hTz fun h₁ hz₁ hs₁ => ?_)
  simp only [Bool.false_eq_true, if_false]
  refine wpAny_bind ?_
  simp only [List.forIn_toArray, List.forIn_cons, List.forIn_nil]
  refine wpAny_bind (wpAny_bind (wpAny_holding ?_))
  show wpAny _ _ (Builtin.SmallTypes.nextOf (.ref i1) >>= _) _ _ _
  refine wpAny_bind (next_tuple_end hh (h1.extBut hs₁.extBut D.i1z) (hl1.extBut hs₁.extBut D.l1z) hx fun h₂ e hs₂ he => ?_)
  exact hE h₂ e (fun c o c1 c2 x => hs₂ _ _ c2 (hs₁.extBut _ _ c1 x)) he
end
theorem zip_no_len : typeLookup (.type "zip") "__len__" = pure none := by rw [typeLookup_type, builtinLookup_eq_fast]; kernel_rfl
theorem zip_no_hint : typeLookup (.type "zip") "__length_hint__" = pure none := by rw [typeLookup_type, builtinLookup_eq_fast]; kernel_rfl
noncomputable abbrev ztH1 (h : Heap) (l1 : Addr) : Heap := h.push { cls := .type "tuple_iterator", data := .fields #[.ref l1, .int 0 0] }
noncomputable abbrev ztH2 (h : Heap) (l1 l2 : Addr) : Heap := (ztH1 h l1).push { cls := .type "tuple_iterator", data := .fields #[.ref l2, .int 0 0] }
noncomputable abbrev ztH3 (h : Heap) (l1 l2 : Addr) : Heap := (ztH2 h l1 l2).push { cls := .type "tuple", data := .seq #[.ref h.objs.size, .ref (ztH1 h l1).objs.size] }
noncomputable abbrev ztH4 (h : Heap) (l1 l2 : Addr) : Heap := (ztH3 h l1 l2).push { cls := .type "tuple", data := .seq #[.none, .none] }
noncomputable abbrev ztH5 (h : Heap) (l1 l2 : Addr) : Heap := (ztH4 h l1 l2).push { cls := .type "zip", data := .fields #[.none, .bool false, .bool false, .ref (ztH2 h l1 l2).objs.size, .ref (ztH3 h l1 l2).objs.size] }
theorem meets_zip_tuples (l1 l2 : Addr) (xs ys : Array Value) :
    Meets (Builtin.«zip.__new__» ⟨[.type "zip", .ref l1, .ref l2], []⟩) (fun _ R s => s.heap.IsTuple l1 xs ∧ s.heap.IsTuple l2 ys ∧
      R (.ok (.ret (.ref (ztH4 s.heap l1 l2).objs.size))) { s with heap := ztH5 s.heap l1 l2 }) :=
  .of_wp fun prog w A R s h => by
    obtain ⟨hp, g, d, tk, os⟩ := s; obtain ⟨hl1, hl2, h⟩ := h
    have hsub := sub_zip
    have hL1 : Heap.IsTuple (Shared.heap ⟨hp, g, d, tk, os⟩) l1 xs := hl1
    have hL2 : Heap.IsTuple (Shared.heap ⟨hp.push { cls := .type "tuple_iterator", data := .fields #[.ref l1, .int 0 0] }, g, d, tk, os⟩) l2 ys := Heap.IsTuple.push hl2 _
    wp_walk using wpAny_pyIter_tuple hL1, wpAny_pyIter_tuple hL2
    exact ⟨_, rfl, h⟩
section
variable {prog : Program} {w : World} {A : Around} {E : Value → Shared → Prop} {s : Shared}
theorem call_zip_tuples {l1 l2 : Addr} {xs ys : Array Value} {Q : Value → Shared → Prop} (hl1 : s.heap.IsTuple l1 xs) (hl2 : s.heap.IsTuple l2 ys)
    (h : ∀ h', ZipO h' (s.heap.objs.size + 4) (s.heap.objs.size + 2) (s.heap.objs.size + 3) .none (.bool false) → IsPair h' (s.heap.objs.size + 2) (.ref s.heap.objs.size) (.ref (s.heap.objs.size + 1)) →
      IsPair h' (s.heap.objs.size + 3) .none .none → h'.IsTupleIter s.heap.objs.size l1 0 → h'.IsTupleIter (s.heap.objs.size + 1) l2 0 →
      (∀ c o, s.heap.get? c = some o → h'.get? c = some o) → Q (.ref (s.heap.objs.size + 4)) { s with heap := h' }) :
    wpAny (model prog w) A (call (.type "zip") [.ref l1, .ref l2]) Q E s := by
  refine callType_new PySem.F.called_zip (by decide) (PySem.F.typeCall_zip_2 _ _) (PySem.F.newCall_zip_2 _ _) (fun obj => PySem.F.args_object_init_3 obj _ _) PySem.F.entry_zip_new
    (meets_zip_tuples l1 l2 xs ys) ⟨hl1, hl2, ?_⟩
  have z1 : (ztH1 s.heap l1).objs.size = s.heap.objs.size + 1 := Heap.size_push ..
  have z2 : (ztH2 s.heap l1 l2).objs.size = s.heap.objs.size + 2 := by rw [Heap.size_push, z1]
  have z3 : (ztH3 s.heap l1 l2).objs.size = s.heap.objs.size + 3 := by rw [Heap.size_push, z2]
  have z4 : (ztH4 s.heap l1 l2).objs.size = s.heap.objs.size + 4 := by rw [Heap.size_push, z3]
  have g5 : (ztH5 s.heap l1 l2).get? (ztH4 s.heap l1 l2).objs.size = some _ := Heap.get?_push_size _ rfl
  have g4 : (ztH5 s.heap l1 l2).get? (ztH3 s.heap l1 l2).objs.size = some _ := Heap.get?_push_of_some _ (Heap.get?_push_size _ rfl)
  have g3 : (ztH5 s.heap l1 l2).get? (ztH2 s.heap l1 l2).objs.size = some _ := Heap.get?_push_of_some _ (Heap.get?_push_of_some _ (Heap.get?_push_size _ rfl))
  have g2 : (ztH5 s.heap l1 l2).get? (ztH1 s.heap l1).objs.size = some _ := Heap.get?_push_of_some _ (Heap.get?_push_of_some _ (Heap.get?_push_of_some _ (Heap.get?_push_size _ rfl)))
  have g1 : (ztH5 s.heap l1 l2).get? s.heap.objs.size = some _ := Heap.get?_push_of_some _ (Heap.get?_push_of_some _ (Heap.get?_push_of_some _ (Heap.get?_push_of_some _ (Heap.get?_push_size _ rfl))))
  show _ ∧ _
  rw [z2, z3, z4] at g5
  rw [z1, z2] at g3
  rw [z3] at g4
  rw [z1] at g2
  rw [z4]
  exact ⟨⟨_, g5, rfl⟩, h _ g5 g3 g4 ⟨_, g1, rfl, rfl⟩ ⟨_, g2, rfl, rfl⟩ fun c o x =>
    Heap.get?_push_of_some _ (Heap.get?_push_of_some _ (Heap.get?_push_of_some _ (Heap.get?_push_of_some _ (Heap.get?_push_of_some _ x))))⟩
theorem next_of {z TI TO : Addr} {f0 f1 : Value} {Q : Option Value → Shared → Prop} (hz : ZipO s.heap z TI TO f0 f1)
    (h : wpAny (model prog w) A.in1 (Builtin.«zip.__next__» ⟨[.ref z], []⟩) (fun fin s' => ∃ v, fin = .done (.ret v) ∧ Q (some v) s')
      (fun e s' => ∃ o a, e = .ref a ∧ s'.heap.get? a = some o ∧ o.cls = .type "StopIteration" ∧ Q none s') s) :
    wpAny (model prog w) A (pyNext (.ref z)) Q E s := by
  have hT : s.TypeIs (.ref z) "zip" := ⟨_, hz, rfl⟩
  unfold pyNext
  refine wpAny_bind (wpAny_attempt (wpAny_callSpecial?_slot (name := Str.ofString "__next__") hT PySem.F.slot_zip_next
    (wpAny_call_entry PySem.F.slot_zip_next hT PySem.F.entry_zip_next (wpAny_mono h (fun fin s' ⟨v, e, q⟩ => ⟨v, e, wpAny_pure q⟩) fun e s' ⟨o, a, he, ho, hc, q⟩ => ?_) (PySem.F.args_zip_next_1 _))))
  subst he
  refine wpAny_bind (wpAny_isInstance (T := "StopIteration") (b := true) ⟨o, ho, hc⟩ isSubtype_stop ?_)
  exact wpAny_pure q
inductive Pairs (h : Heap) (lo : Nat) : List Value → List Value → List Value → Prop
  | nil : Pairs h lo [] [] []
  | cons {p : Addr} {x y : Value} {ps xs ys : List Value} : h.get? p = some ({ cls := .type "tuple", data := .seq #[x, y] } : Obj) → lo ≤ p → Pairs h lo ps xs ys → Pairs h lo (.ref p :: ps) (x :: xs) (y :: ys)
theorem Pairs.keep {h h' : Heap} {lo : Nat} {ps xs ys : List Value} (r : Pairs h lo ps xs ys) (hk : ∀ p o, lo ≤ p → h.get? p = some o → h'.get? p = some o) : Pairs h' lo ps xs ys := by
  induction r with
  | nil => exact .nil
  | cons e l _ ih => exact .cons (hk _ _ l e) l ih
theorem Pairs.snoc {h : Heap} {lo : Nat} {ps xs ys : List Value} (r : Pairs h lo ps xs ys) {p : Addr} {x y : Value} (e : h.get? p = some ({ cls := .type "tuple", data := .seq #[x, y] } : Obj)) (l : lo ≤ p) : Pairs h lo (ps ++ [.ref p]) (xs ++ [x]) (ys ++ [y]) := by
  induction r with
  | nil => exact .cons e l .nil
  | cons e' l' _ ih => exact .cons e' l' ih
theorem Pairs.length {h : Heap} {lo : Nat} {ps xs ys : List Value} (r : Pairs h lo ps xs ys) : ps.length = xs.length := by
  induction r with
  | nil => rfl
  | cons _ _ _ ih => simp [ih]
theorem Pairs.dts {h : Heap} {lo : Nat} {ps xs ys : List Value} (r : Pairs h lo ps xs ys) : ∀ {es gs : List Dt}, DtAll h xs es → DtAll h ys gs → DtAll h ps ((es.zip gs).map fun p => .tup [p.1, p.2]) := by
  induction r with
  | nil => intro es gs a b; cases a; exact .nil
  | cons e l _ ih =>
    intro es gs a b
    cases a with | cons a1 a => cases b with | cons b1 b => exact .cons (.tup ⟨0, e⟩ (.cons a1 (.cons b1 .nil))) (ih a b)
structure ZLoop (h0 h : Heap) (B S l1 l2 : Addr) (xs ys vs : List Value) (k : Nat) : Prop where
  zip : (k = 0 ∧ ZipO h (B + 4) (B + 2) (B + 3) .none (.bool false) ∧ ∃ a b, IsPair h (B + 3) a b) ∨
    ∃ (T : Addr) (f1 : Value), ZipO h (B + 4) (B + 2) (B + 3) (rawInt T) f1 ∧ (f1 = .bool true ∨ f1 = .bool false) ∧ (∃ o, h.get? T = some o) ∧ T ≠ B + 4 ∧ T ≠ B + 3 ∧ T ≠ B ∧ T ≠ B + 1
  ti : IsPair h (B + 2) (.ref B) (.ref (B + 1))
  i1 : h.IsTupleIter B l1 k
  i2 : h.IsTupleIter (B + 1) l2 k
  old : ∀ b o, b ≠ S → h0.get? b = some o → h.get? b = some o
  lst : ∃ ps n, h.get? S = some (listOf (List.toArray (vs ++ ps)) n) ∧ Pairs h (B + 5) ps (xs.take k) (ys.take k)
theorem ne_off {B i j : Nat} (h : i ≠ j) : B + i ≠ B + j := fun e => h (Nat.add_left_cancel e)
theorem za_apart (B : Nat) (l1 l2 : Addr) (h1 : l1 < B) (h2 : l2 < B) : ZipApart (B + 4) (B + 2) (B + 3) B (B + 1) l1 l2 where
  TIz := ne_off (by decide : 2 ≠ 4)
  TOz := ne_off (by decide : 3 ≠ 4)
  i1z := Nat.ne_of_lt (Nat.lt_add_of_pos_right (by decide : 0 < 4))
  i2z := ne_off (by decide : 1 ≠ 4)
  TITO := ne_off (by decide : 2 ≠ 3)
  TIi1 := Nat.ne_of_gt (Nat.lt_add_of_pos_right (by decide : 0 < 2))
  TIi2 := ne_off (by decide : 2 ≠ 1)
  TOi1 := Nat.ne_of_gt (Nat.lt_add_of_pos_right (by decide : 0 < 3))
  TOi2 := ne_off (by decide : 3 ≠ 1)
  i12 := Nat.ne_of_lt (Nat.lt_add_of_pos_right (by decide : 0 < 1))
  l1z := Nat.ne_of_lt (Nat.lt_of_lt_of_le h1 (Nat.le_add_right B _))
  l1TO := Nat.ne_of_lt (Nat.lt_of_lt_of_le h1 (Nat.le_add_right B _))
  l1i1 := Nat.ne_of_lt h1
  l1i2 := Nat.ne_of_lt (Nat.lt_of_lt_of_le h1 (Nat.le_add_right B _))
  l2z := Nat.ne_of_lt (Nat.lt_of_lt_of_le h2 (Nat.le_add_right B _))
  l2TO := Nat.ne_of_lt (Nat.lt_of_lt_of_le h2 (Nat.le_add_right B _))
  l2i1 := Nat.ne_of_lt h2
  l2i2 := Nat.ne_of_lt (Nat.lt_of_lt_of_le h2 (Nat.le_add_right B _))
theorem zip_loop {h0 : Heap} {B : Nat} {S l1 l2 : Addr} {xs ys vs : List Value} {R : Result → Shared → Prop} (hh : A.handled = none) (hB : ∀ b o, h0.get? b = some o → b < B) (hS : S < B) (h1 : l1 < B) (h2 : l2 < B) (hn1 : l1 ≠ S) (hn2 : l2 ≠ S)
    (g1 : h0.IsTuple l1 xs.toArray) (g2 : h0.IsTuple l2 ys.toArray) (hl : xs.length = ys.length) (hpos : 0 < xs.length) (hsz : vs.length + xs.length ≤ sizeLine) :
    ∀ (n k : Nat) (s : Shared), xs.length - k = n → k ≤ xs.length → ZLoop h0 s.heap B S l1 l2 xs ys vs k →
      (∀ h' tk ps m, (∀ b o, b ≠ S → h0.get? b = some o → h'.get? b = some o) → h'.get? S = some (listOf (List.toArray (vs ++ ps)) m) → Pairs h' (B + 5) ps xs ys → R (.ok (.ret .none)) { s with heap := h', toks := tk }) →
      codeAny (model prog w) A (.builtin "list.extend.loop" ⟨[.ref S, .ref (B + 4), .none], []⟩) R s := by
  have D := za_apart B l1 l2 h1 h2
  have sS : ∀ j, S ≠ B + j := fun j => Nat.ne_of_lt (Nat.lt_of_lt_of_le hS (Nat.le_add_right _ _))
  intro n
  induction n with
  | zero =>
    intro k s hn hk J hR
    have hkn : k = xs.length := by omega
    rcases J.zip with ⟨e, _⟩ | ⟨T, f1, hz, hf, ⟨oT, hT⟩, t1, t2, t3, t4⟩
    · omega
    have q1 : s.heap.IsTuple l1 xs.toArray := Heap.IsTuple.at g1 fun o e => J.old _ o hn1 e
    refine codeAny_builtin PySem.F.entry_extend_loop ?_
    rw [Around.under_plainId PySem.F.plain_extend_loop _]
    show wpAny _ A.in1 (pyNext (.ref (B + 4)) >>= _) _ _ s
    refine wpAny_bind (next_of hz (zip_end (A := A.in1.in1) hh D hz hf hT t1 J.ti J.i1 q1 (by simp [hkn]) fun h' e hk he => ?_))
    obtain ⟨o, ho, hc⟩ := he
    refine ⟨o, e, rfl, ho, hc, wpAny_pure ?_⟩
    obtain ⟨ps, m, hS', hP⟩ := J.lst
    rw [hkn, List.take_length] at hP
    rw [show ys.take xs.length = ys by rw [hl, List.take_length]] at hP
    refine hR h' s.toks ps m (fun b o hb e => hk b o ?_ ?_ (J.old b o hb e)) (hk S _ (sS 4) (sS 0) hS') (hP.keep fun p o hp e => hk p o ?_ ?_ e)
    · exact Nat.ne_of_lt (Nat.lt_of_lt_of_le (hB _ _ e) (Nat.le_add_right _ _))
    · exact Nat.ne_of_lt (hB _ _ e)
    · exact Nat.ne_of_gt (Nat.lt_of_lt_of_le (Nat.add_lt_add_left (by decide) B) hp)
    · exact Nat.ne_of_gt (Nat.lt_of_lt_of_le (Nat.lt_add_of_pos_right (by decide : 0 < 5)) hp)
  | succ n ih =>
    intro k s hn hk J hR
    have hlt : k < xs.length := by omega
    have hlt' : k < ys.length := by omega
    have q1 : s.heap.IsTuple l1 xs.toArray := Heap.IsTuple.at g1 fun o e => J.old _ o hn1 e
    have q2 : s.heap.IsTuple l2 ys.toArray := Heap.IsTuple.at g2 fun o e => J.old _ o hn2 e
    have hx : xs.toArray[k]? = some xs[k] := by simp [hlt]
    have hy : ys.toArray[k]? = some ys[k] := by simp [hlt']
    have hzlt : B + 4 < s.heap.objs.size := by
      rcases J.zip with ⟨_, hz, _⟩ | ⟨T, f1, hz, _⟩ <;> exact Heap.lt_size hz
    obtain ⟨ps, m, hS', hP⟩ := J.lst
    have hpl : ps.length = k := by rw [hP.length, List.length_take]; omega
    have post : ZipPost s (B + 4) (B + 2) (B + 3) B (B + 1) l1 l2 k xs[k] ys[k] (fun v s₁ => wpAny (model prog w) A.in1 (Builtin.List.listUpdate (.ref S) (·.push v) >>= fun _ => again (.builtin "list.extend.loop" ⟨[.ref S, .ref (B + 4), .none], []⟩))
        (fun fin s' => match fin with | .done f => R (.ok f) s' | .again c' => c'.quiet = true ∧ codeAny (model prog w) A c' R s') (fun e s' => R (.error e) s') s₁) := by
      intro h' T f1 z1 z2 z3 z4 z5 z6 z7 z8 z9 z10 z11
      have hS₁ : h'.get? S = some (listOf (List.toArray (vs ++ ps)) m) := z11 S _ (sS 4) (sS 3) (sS 0) (sS 1) hS'
      show wpAny _ _ (updateSeq S (·.push (.ref s.heap.objs.size)) >>= _) _ _ _
      refine wpAny_bind (wpAny_updateSeq hS₁ rfl (wpAny_pure ⟨plainId_quiet PySem.F.plain_extend_loop _, ?_⟩) (by simp only [List.size_toArray, List.length_append]; omega) (by simp only [Array.size_push, List.size_toArray, List.length_append]; omega))
      have oth : ∀ b o, b ≠ S → h'.get? b = some o → (h'.update S (Obj.mapSeq (·.push (.ref s.heap.objs.size)))).get? b = some o := fun b o hb e => (Heap.get?_update_other _ _ (Ne.symm hb)).trans e
      obtain ⟨n', hn'⟩ := upd_list (fun xs => xs.push (.ref s.heap.objs.size)) hS₁
      have hlo : B + 5 ≤ s.heap.objs.size := by omega
      refine ih (k + 1) _ (by omega) (by omega) ⟨.inr ⟨T, f1, oth _ _ (Ne.symm (sS 4)) z1, z2, ?_, z4, z5, z6, z7⟩, oth _ _ (Ne.symm (sS 2)) (z11 _ _ D.TIz D.TITO D.TIi1 D.TIi2 J.ti), z8.at fun o e => oth _ o (Ne.symm (sS 0)) e, z9.at fun o e => oth _ o (Ne.symm (sS 1)) e, fun b o hb e => oth b o hb (z11 b o ?_ ?_ ?_ ?_ (J.old b o hb e)),
        ps ++ [.ref s.heap.objs.size], n', ?_, ?_⟩ fun h2 tk ps2 m2 a1 a2 a3 => hR h2 tk ps2 m2 a1 a2 a3
      · obtain ⟨oT, hT⟩ := z3
        by_cases e : T = S
        · subst e; exact ⟨_, hn'⟩
        · exact ⟨oT, oth _ _ e hT⟩
      · exact Nat.ne_of_lt (Nat.lt_of_lt_of_le (hB _ _ e) (Nat.le_add_right _ _))
      · exact Nat.ne_of_lt (Nat.lt_of_lt_of_le (hB _ _ e) (Nat.le_add_right _ _))
      · exact Nat.ne_of_lt (hB _ _ e)
      · exact Nat.ne_of_lt (Nat.lt_of_lt_of_le (hB _ _ e) (Nat.le_add_right _ _))
      · rw [hn']; simp
      · have e1 : xs.take (k + 1) = xs.take k ++ [xs[k]] := by rw [List.take_succ_eq_append_getElem hlt]
        have e2 : ys.take (k + 1) = ys.take k ++ [ys[k]] := by rw [List.take_succ_eq_append_getElem hlt']
        rw [e1, e2]
        refine Pairs.snoc (hP.keep fun p o hp e => oth p o (fun z => ?_) (z11 p o ?_ ?_ ?_ ?_ e)) (oth _ _ (fun z => ?_) z10) hlo
        · subst z; exact absurd (Nat.lt_of_lt_of_le hS (Nat.le_add_right B 5)) (Nat.not_lt.mpr hp)
        · exact Nat.ne_of_gt (Nat.lt_of_lt_of_le (Nat.add_lt_add_left (by decide) B) hp)
        · exact Nat.ne_of_gt (Nat.lt_of_lt_of_le (Nat.add_lt_add_left (by decide) B) hp)
        · exact Nat.ne_of_gt (Nat.lt_of_lt_of_le (Nat.lt_add_of_pos_right (by decide : 0 < 5)) hp)
        · exact Nat.ne_of_gt (Nat.lt_of_lt_of_le (Nat.add_lt_add_left (by decide) B) hp)
        · exact absurd (Heap.lt_size hS') (by rw [← z]; exact Nat.lt_irrefl _)
    refine codeAny_builtin PySem.F.entry_extend_loop ?_
    rw [Around.under_plainId PySem.F.plain_extend_loop _]
    show wpAny _ A.in1 (pyNext (.ref (B + 4)) >>= _) _ _ s
    rcases J.zip with ⟨rfl, hz, a, b, hTO⟩ | ⟨T, f1, hz, hf, ⟨oT, hT⟩, t1, t2, t3, t4⟩
    · exact wpAny_bind (next_of hz (zip_first (A := A.in1.in1) D hz J.ti hTO J.i1 J.i2 q1 q2 hx hy post))
    · exact wpAny_bind (next_of hz (zip_more (A := A.in1.in1) D hz hf hT t1 t2 t3 t4 J.ti J.i1 J.i2 q1 q2 hx hy post))
end
end
section
open PySem PySem.W PyProof.Rows
set_option backward.match.sparseCases true
section
variable {c : Cx} {C : Oracle} {env : Env} {k : Nat} {A : Around} {f f' : Frm} {H H1 : AH} {s s1 : Shared}
theorem extend_zip {a Z : Addr} {vs xs ys : List Value} {n : Nat} {h0 : Heap} {l1 l2 : Addr} {R : Value → Shared → Prop} (hh : A.handled = none)
    (hB : h0.objs.size = Z) (hS : s.heap.get? a = some (listOf (List.toArray vs) n)) (hSB : a < Z) (h1 : l1 < Z) (h2 : l2 < Z) (hn1 : l1 ≠ a) (hn2 : l2 ≠ a)
    (g1 : h0.IsTuple l1 xs.toArray) (g2 : h0.IsTuple l2 ys.toArray) (hl : xs.length = ys.length) (hpos : 0 < xs.length) (hsz : vs.length + xs.length ≤ sizeLine)
    (hz : ZipO s.heap (Z + 4) (Z + 2) (Z + 3) .none (.bool false)) (hTI : IsPair s.heap (Z + 2) (.ref Z) (.ref (Z + 1))) (hTO : IsPair s.heap (Z + 3) .none .none) (i1 : s.heap.IsTupleIter Z l1 0) (i2 : s.heap.IsTupleIter (Z + 1) l2 0)
    (old : ∀ b o, h0.get? b = some o → s.heap.get? b = some o)
    (q : ∀ h' tk ps m, (∀ b o, b ≠ a → h0.get? b = some o → h'.get? b = some o) → h'.get? a = some (listOf (List.toArray (vs ++ ps)) m) → Pairs h' (Z + 5) ps xs ys → R .none { s with heap := h', toks := tk }) :
    wpAny (model c.prog c.w) A (call (.builtin "list.extend") [.ref a, .ref (Z + 4)]) R NoE s := by
  have sS : ∀ j, a ≠ Z + j := fun j => Nat.ne_of_lt (Nat.lt_of_lt_of_le hSB (Nat.le_add_right _ _))
  have hT : s.TypeIs (.ref (Z + 4)) "zip" := ⟨_, hz, rfl⟩
  refine wpAny_call (codeAny_call_builtin PySem.F.slot_list_extend.plain PySem.F.entry_list_extend (PySem.F.slot_list_extend.check _ _ _ _ _ _ _ _ ⟨_, hS, rfl⟩ (PySem.F.args_list_extend_2 _ _) ?_))
  show wpAny _ A.in1 (Builtin.List.listExtendWith (.ref a) (.ref (Z + 4)) .none) _ _ _
  unfold Builtin.List.listExtendWith
  refine wpAny_bind (wpAny_typeOf hT ?_)
  have e1 : Builtin.List.listSameRef (.ref a) (.ref (Z + 4)) = false := by simp [Builtin.List.listSameRef, sS 4]
  have e2 : (Value.type "zip" == Value.type "list") = false := by decide
  have e3 : (Value.type "zip" == Value.type "tuple") = false := by decide
  simp only [e1, e2, e3, Bool.or_false, Bool.false_eq_true, if_false]
  refine wpAny_bind (wpAny_pyIter_zip hz ?_)
  have hint : wpAny (model c.prog c.w) A.in1 (Builtin.List.listLengthHint (.ref (Z + 4))) (fun b s' => b = true ∧ s' = s) (fun e s' => False) s := by
    unfold Builtin.List.listLengthHint
    refine wpAny_bind (wpAny_specialOf hT zip_no_len ?_)
    show wpAny _ A.in1 (specialOf (Value.ref (Z + 4)) (Str.ofString "__length_hint__") >>= _) _ _ _
    exact wpAny_bind (wpAny_specialOf hT zip_no_hint (wpAny_pure ⟨rfl, rfl⟩))
  refine wpAny_bind (wpAny_holding (wpAny_mono hint (fun b s' e => ?_) fun _ _ z => z.elim))
  obtain ⟨hb, hs⟩ := e
  subst hb; subst hs
  simp only [Bool.true_or, if_true]
  refine wpAny_bind (wpAny_rule ?_)
  refine wpAny_bind ?_
  show wpAny _ _ (updateSeq a (·.push .none) >>= fun _ => updateSeq a (·.pop)) _ _ _
  have hv : vs.length ≤ sizeLine := Nat.le_trans (Nat.le_add_right _ _) hsz
  have hv1 : vs.length + 1 ≤ sizeLine := Nat.le_trans (Nat.add_le_add_left hpos _) hsz
  refine wpAny_bind (wpAny_updateSeq hS rfl ?_ (by simpa using hv) (by simp only [Array.size_push, List.size_toArray]; exact Nat.succ_le_succ hv))
  obtain ⟨n2, hS₂⟩ := upd_list (fun xs => xs.push Value.none) hS
  refine wpAny_updateSeq (hz := by simp only [Array.size_push, List.size_toArray]; exact hv1) hS₂ rfl ?_
  obtain ⟨n3, hS₃⟩ := upd_list (fun xs => xs.pop) hS₂
  have oth : ∀ b o, b ≠ a → s'.heap.get? b = some o → ((s'.heap.update a (Obj.mapSeq (·.push Value.none))).update a (Obj.mapSeq (·.pop))).get? b = some o := fun b o hb e =>
    (Heap.get?_update_other _ _ (Ne.symm hb)).trans ((Heap.get?_update_other _ _ (Ne.symm hb)).trans e)
  refine wpAny_pure ⟨plainId_quiet PySem.F.plain_extend_loop _, ?_⟩
  refine zip_loop (A := A) (h0 := h0) (B := Z) hh (fun b o e => hB ▸ Heap.lt_size e) hSB h1 h2 hn1 hn2 g1 g2 hl hpos hsz xs.length 0 _ (Nat.sub_zero _) (Nat.zero_le _)
    ⟨.inl ⟨rfl, oth _ _ (Ne.symm (sS 4)) hz, _, _, oth _ _ (Ne.symm (sS 3)) hTO⟩, oth _ _ (Ne.symm (sS 2)) hTI, i1.at fun o e => oth _ o (Ne.symm (sS 0)) e, i2.at fun o e => oth _ o (Ne.symm (sS 1)) e, fun b o hb e => oth b o hb (old b o e),
      [], n3, by rw [hS₃]; simp, by simpa using Pairs.nil⟩ fun h' tk ps m a1 a2 a3 => ?_
  exact q h' tk ps m a1 a2 a3
theorem sndX_extZ {o a b : Expr} {io ia ib : IE} {x : Str} {p apos pos zpos spos : Pos} (B : BiOK c env x (.type "zip")) (ho : SndO c C env o io k) (ha : SndO c C env a ia k) (hb : SndO c C env b ib k) (na : noStar a = true) (nb : noStar b = true)
    (hbase : attributeBase o "extend" env (eval o env) = eval o env) (hline : (apos.endLine == pos.line) = true) (hs : swapsWith (.Call (.Attribute o "extend" apos) [.Call (.Name x p) [a, b] [] zpos] [] pos) none spos.line env = pure false) :
    SndX c C env (.Expr (.Call (.Attribute o "extend" apos) [.Call (.Name x p) [a, b] [] zpos] [] pos) spos) (.extZ io ia ib) k := by
  intro A f H Q s g t h
  have hlim : lim = 1000000 := rfl
  have hL : sizeLine = 16777216 := rfl
  refine wpAny_Expr ?_ (interactive_no t.fr.ok.kind) hs
  refine meth_call hbase (by rfl) hline (ho.go g t (h : We C io f H (refLQ fun o H1 => We C ia f H1 fun u H2 => We C ib f H2 (zipQ o (Q .next f) u))) fun ov v H1 s1 hq rx t1 k1 pl => ?_)
  cases hq with
  | @mk a' _ _ e1 hq =>
  obtain rfl : ov = .ref a' := rx
  obtain ⟨vs, n, g1, g2, g3⟩ := t1.rel.list e1
  refine getMethod_builtin ⟨_, g1, rfl⟩ PySem.F.plainAttrs_list PySem.F.slot_list_extend (by kernel_rfl) (fun b q => by cases q; exact ⟨_, g1, rfl⟩) ?_
  suffices main : wpAny (model c.prog c.w) A (spliced (backTo pos (starEach [.Call (.Name x p) [a, b] [] zpos] env))) (fun us s2 => wpAny (model c.prog c.w) A (call (.builtin "list.extend") (.ref a' :: us)) (fun v s' => match v with | .ref _ => False | _ => SP c env H s Q .next s') NoE s2) NoE s1 from
    PySem.Calls.callWith_builtin rfl (PySem.Calls.evalArgs_plain main)
  refine args_cons ?_ rfl
  refine Call_ (bi_name B t1 ?_) rfl
  have l : SndL c C env k [a, b] [ia, ib] := .cons (starEach_no na env) ha (.cons (starEach_no nb env) hb .nil)
  refine PySem.callWith_type l.plain ?_
  rw [starEach_no na env]
  refine PySem.Calls.evalArgs_plain ?_
  show wpAny _ _ (spliced (backTo zpos ((false, eval a env) :: starEach [b] env))) _ _ _
  rw [← starEach_no na env]
  refine args_cons (ha.go g t1 hq fun u1 u H2 s2' hu r1 t2' k2' => args_cons (hb.go g t2' hu fun u2 v H3 s2 hq r2 t2 k2'' => args_nil ?_) (starEach_no nb env _)) (starEach_no na env _)
  have r1 := r1.keep k2''.tup
  have k2 := k2'.trans k2''
  cases hq with
  | @mk es gs ds' _ e3 hl1 hl2 hl3 hq =>
  obtain ⟨vs', n', g1', g2', g3'⟩ := t2.rel.list e3
  obtain ⟨l1, xs, rfl, ⟨m1, o1⟩, d1⟩ := DtIn.tupEq r1
  obtain ⟨l2, ys, rfl, ⟨m2, o2⟩, d2⟩ := DtIn.tupEq r2
  have n1 : l1 ≠ a' := fun z => by subst z; rw [o1] at g1'; injection g1' with g1'; injection g1' with g1'; exact it_ne g1'
  have n2 : l2 ≠ a' := fun z => by subst z; rw [o2] at g1'; injection g1' with g1'; injection g1' with g1'; exact it_ne g1'
  have hv := g2'.length
  have hx := d1.length
  have hy := d2.length
  refine call_zip_tuples (xs := xs.toArray) (ys := ys.toArray) ⟨_, o1, rfl, m1, rfl⟩ ⟨_, o2, rfl, m2, rfl⟩ fun h' hz hTI hTO hi1 hi2 hk => ?_
  refine args_nil ?_
  refine extend_zip (s := { s2 with heap := h' }) (h0 := s2.heap) (Z := s2.heap.objs.size) (vs := vs') (xs := xs) (ys := ys) g.hd rfl (hk _ _ g1') (Heap.lt_size g1') (Heap.lt_size o1) (Heap.lt_size o2) n1 n2 ⟨_, o1, rfl, m1, rfl⟩ ⟨_, o2, rfl, m2, rfl⟩ (hx.trans (hl2.trans hy.symm)) (hx ▸ hl3) (by rw [hv, hx]; exact Nat.le_trans (Nat.le_of_lt hl1) (by decide))
    hz hTI hTO hi1 hi2 hk fun h2 tk ps m q1 q2 q3 => ?_
  have hnl : env.locals ≠ a' := fun z => by
    have := t2.fr.off
    rw [z, e3] at this; cases this
  obtain ⟨t3, k3⟩ := t2.updL (h' := h2) (n := tk) (o := .lst (ds' ++ (es.zip gs).map fun p => .tup [p.1, p.2])) (obj_ne e3) (fun b o e hb _ => q1 b o hb e) (fun m hm => hm.at' fun o e => q1 _ o hnl e) fun tk => by
    refine ⟨vs' ++ ps, m, q2, (g2'.keep tk).append (q3.dts (d1.keep tk) (d2.keep tk)), ?_⟩
    rw [List.length_append, List.length_map, List.length_zip]
    exact Nat.le_trans (Nat.add_le_add_left (Nat.min_le_left ..) _) (Nat.le_trans (Nat.le_of_lt hl1) (by decide))
  exact SP.next hq t3 ((k1.trans k2).trans k3).own
end
end
section
open PySem PySem.W PyProof.Rows
noncomputable def sto? (sc : Scope) (x : Str) : Bool := sc.names.lookup x == some .local || sc.names.lookup x == some .cell
noncomputable def isComp (e : Expr) : Bool := match e with
  | .ListComp .. => true
  | .SetComp .. => true
  | .DictComp .. => true
  | _ => false
noncomputable def nameOf (e : Expr) : Option (Str × Pos) := match e with
  | .Name x p => some (x, p)
  | _ => none
noncomputable def swapOk (sc : Scope) (es vs : List Expr) : Option (Str × Str) := optB none (two es) fun e => optB none (two vs) fun v => optB none (nameOf e.1) fun x => optB none (nameOf e.2) fun y =>
  cond (!(x.1 == y.1) && loc? sc x.1 && loc? sc y.1 && x.2.line == y.2.line && noStar v.1 && noStar v.2 && !(foldedForSure 8 v.1 && foldedForSure 8 v.2) && !(constantsAlone 8 v.1 && constantsAlone 8 v.2)) (some (x.1, y.1)) none
noncomputable def cTup (F : Expr → IE) (sc : Scope) (es : List Expr) (value : Expr) : IS := match value with
  | .Tuple vs _ _ => optB .bad (swapOk sc es vs) fun p => .asg (.many [p.1, p.2]) (F value)
  | _ => cond (isComp value) .bad (optB .bad (namesT (sto? sc) es) fun xs => .asg (.many xs) (F value))
noncomputable def cAsg (F : Expr → IE) (sc : Scope) (t value : Expr) : IS := match t with
  | .Name x _ => cond (sto? sc x) (.asg (.one x) (F value)) .bad
  | .Tuple es _ _ => cTup F sc es value
  | .Attribute o x _ => cond (!isComp value && tabAt.contains x) (.satt (F o) x (F value)) .bad
  | .Subscript o i _ => cond (isComp value) .bad (.ssub (F o) (F i) (F value))
  | _ => .bad
noncomputable def zipArgs (sc : Scope) (e : Expr) : Option (Expr × Expr) := match e with
  | .Call g es kws _ => (match g with
    | .Name f _ => cond (f == "zip" && glob? sc f && kws.isEmpty && es.all noStar) (two es) none
    | _ => none)
  | _ => none
noncomputable def cExp (F : Expr → IE) (sc : Scope) (e : Expr) : IS := match e with
  | .Call g es kws pos => (match g with
    | .Attribute o m apos => optB (.exp (F e)) (cond (m == "extend" && isBase o && kws.isEmpty && apos.endLine == pos.line) ((one es).bind (zipArgs sc)) none) fun p => .extZ (F o) (F p.1) (F p.2)
    | _ => .exp (F e))
  | _ => cond (isComp e) .bad (.exp (F e))
noncomputable def cFor (F : Expr → IE) (sc : Scope) (target iter : Expr) (b : List IS) : IS := match target with
  | .Name y _ => cond (sto? sc y) (optB (cond (isSet iter) .bad (.forE (.one y) (F iter) b)) (rngArgs sc iter) fun es => .forR y (es.map F) b) .bad
  | _ => .bad
noncomputable def cAug (F : Expr → IE) (sc : Scope) (t : Expr) (op : Operator) (e : Expr) : IS := match t with
  | .Name x _ => cond (sto? sc x && !(x == "__classdict__")) (.aug x op (F e)) .bad
  | _ => .bad
noncomputable def cDelS (F : Expr → IE) (o i : Expr) : IS := match i with
  | .Slice lo hi st _ => optB .bad lo fun l => cond (hi.isNone && st.isNone) (.del (F o) (F l)) .bad
  | _ => .bad
noncomputable def cDel (F : Expr → IE) (e : Expr) : IS := match e with
  | .Subscript o i _ => cDelS F o i
  | _ => .bad
noncomputable def stepS (S : Stmt → IS) (E T : Expr → IE) (sc : Scope) (st : Stmt) : IS := match st with
  | .Assign ts v _ => optB .bad (one ts) fun t => cAsg E sc t v
  | .AugAssign t op e _ => cAug E sc t op e
  | .Delete ts _ => optB .bad (one ts) (cDel E)
  | .Expr e _ => cExp E sc e
  | .Return o _ => optB .retN o fun e => .ret (E e)
  | .Break _ => .brk
  | .Continue _ => .cnt
  | .Pass _ => .pas
  | .If t a b _ => .ife (T t) (a.map S) (b.map S)
  | .While t b o _ => cond o.isEmpty (.whl (T t) (b.map S)) .bad
  | .For target iter b o _ => cond o.isEmpty (cFor E sc target iter (b.map S)) .bad
  | _ => .bad
noncomputable def cS : Nat → Scope → Stmt → IS
  | 0 => fun _ _ => .bad
  | n + 1 => fun sc => stepS (cS n sc) (cE 40 sc) (cT 40 sc) sc
section
variable {c : Cx} {env : Env} {k : Nat}
theorem sndX_bad {C : Oracle} {st : Stmt} : SndX c C env st .bad k := fun A f H Q s g t h => (h : False).elim
theorem sndX_cond {C : Oracle} {e : Stmt} {b : Bool} {x y : IS} (h1 : b = true → SndX c C env e x k) (h2 : b = false → SndX c C env e y k) : SndX c C env e (cond b x y) k := P_cond (P := fun x => SndX c C env e x k) h1 h2
theorem sndX_if {C : Oracle} {e : Stmt} {b : Bool} {x : IS} (h1 : b = true → SndX c C env e x k) : SndX c C env e (cond b x .bad) k := sndX_cond h1 fun _ => sndX_bad
theorem sndX_opt {C : Oracle} {e : Stmt} {α : Type} {o : Option α} {x : IS} {F : α → IS} (h1 : SndX c C env e x k) (h2 : ∀ a, o = some a → SndX c C env e (F a) k) : SndX c C env e (optB x o F) k := P_opt (P := fun x => SndX c C env e x k) h1 h2
theorem not_of {b : Bool} (h : (!b) = true) : b = false := by cases b with
  | true => cases h
  | false => rfl
theorem cond_some {α : Type} {b : Bool} {o : Option α} {a : α} (h : cond b o none = some a) : b = true ∧ o = some a := by
  cases b with
  | true => exact ⟨rfl, h⟩
  | false => cases h
theorem opt_some {α β : Type} {o : Option α} {f : α → Option β} {b : β} (h : optB none o f = some b) : ∃ a, o = some a ∧ f a = some b := by
  cases o with
  | some a => exact ⟨a, rfl, h⟩
  | none => cases h
theorem sto_of {x : Str} (h : sto? env.scope x = true) : StoOK env x := (Bool.or_eq_true_iff.mp h).imp eq_of_beq eq_of_beq
theorem swaps_no {value : Expr} (h : isComp value = false) (t : Option Expr) (l : Nat) : swapsWith value t l env = pure false := by
  cases value with
  | ListComp _ _ _ _ => exact nb h.symm
  | SetComp _ _ _ _ => exact nb h.symm
  | DictComp _ _ _ _ _ => exact nb h.symm
  | _ => rfl
theorem name_eq {e : Expr} {x : Str × Pos} (h : nameOf e = some x) : e = .Name x.1 x.2 := by
  cases e with
  | Name _ _ => cases h; rfl
  | _ => exact no h
set_option backward.match.sparseCases true in
theorem star_no {e : Expr} (h : noStar e = true) : (match (generalizing := false) e with | .Starred .. => true | _ => false) = false := by
  cases e with
  | Starred _ _ => exact nb h
  | _ => rfl
set_option backward.match.sparseCases true in
theorem swap_eq (hk : env.scope.kind = .function) {x y : Str} {px py : Pos} {u v : Expr} (h1 : x ≠ y) (h2 : env.kindOf x = some .local) (h3 : env.kindOf y = some .local) (h4 : px.line = py.line) (h5 : noStar u = true) (h6 : noStar v = true)
    (h7 : (foldedForSure 8 u && foldedForSure 8 v) = false) (h8 : (constantsAlone 8 u && constantsAlone 8 v) = false) (k1 k2 : Nat) (p1 p2 : Pos) : swappedStores [.Tuple [.Name x px, .Name y py] k1 p1] (.Tuple [u, v] k2 p2) env = pure (some [x, y]) := by
  have hb : env.blockKind = .function := by unfold Env.blockKind; rw [hk]; rfl
  have hn : ([.Name x px, .Name y py] : List Expr).filterMap (fun e => match e with
    | .Name id pos => if env.kindOf id == some NameKind.local && pos.line == px.line then some id else none
    | _ => none) = [x, y] := by
    refine (List.filterMap_cons_some ?_).trans (congrArg (x :: ·) (List.filterMap_cons_some ?_))
    · show (if (env.kindOf x == some NameKind.local && px.line == px.line) = true then some x else none) = some x
      rw [h2, beq_self_eq_true, beq_self_eq_true]; rfl
    · show (if (env.kindOf y == some NameKind.local && py.line == px.line) = true then some y else none) = some y
      rw [h3, h4, beq_self_eq_true, beq_self_eq_true]; rfl
  have hd : ([x, y] : List Str).eraseDups.length = 2 := by
    have hyx : (y == x) = false := beq_eq_false_iff_ne.mpr (Ne.symm h1)
    simp [List.eraseDups, List.eraseDupsBy, List.eraseDupsBy.loop, hyx]
  have nt : ∀ {b : Bool}, b = false → ¬ b = true := fun h e => by rw [h] at e; cases e
  refine (if_neg (nt ?_)).trans ((if_neg (nt ?_)).trans ((if_neg (nt ?_)).trans ((if_neg (nt ?_)).trans ((if_neg (nt ?_)).trans ?_))))
  · show (_ || env.blockKind != .function) = false
    rw [hb]; rfl
  · show ((match (generalizing := false) u with | .Starred .. => true | _ => false) || ((match (generalizing := false) v with | .Starred .. => true | _ => false) || false)) = false
    rw [star_no h5, star_no h6]; rfl
  · show ((List.filterMap _ _).length != 2 || (List.filterMap _ _).eraseDups.length != (List.filterMap _ _).length) = false
    erw [hn]; rw [hd]; rfl
  · show (foldedForSure 8 u && (foldedForSure 8 v && true)) = false
    rw [Bool.and_true]; exact h7
  · show (constantsAlone 8 u && (constantsAlone 8 v && true)) = false
    rw [Bool.and_true]; exact h8
  · exact congrArg (fun l => pure (some l)) hn
inductive SwapR (env : Env) (es vs : List Expr) : Str × Str → Prop
  | mk {x y : Str} (h1 : x ≠ y) (h2 : LocOK env x) (h3 : LocOK env y) (h : ∀ k1 k2 p1 p2, swappedStores [.Tuple es k1 p1] (.Tuple vs k2 p2) env = pure (some [x, y])) : SwapR env es vs (x, y)
theorem swapOk_sound (hk : env.scope.kind = .function) {es vs : List Expr} {p : Str × Str} (h : swapOk env.scope es vs = some p) : SwapR env es vs p := by
  obtain ⟨e, he, h⟩ := opt_some h
  obtain ⟨v, hv, h⟩ := opt_some h
  obtain ⟨x, hx, h⟩ := opt_some h
  obtain ⟨y, hy, h⟩ := opt_some h
  obtain ⟨hc, e'⟩ := cond_some h
  cases e'
  rw [two_eq he, two_eq hv, name_eq hx, name_eq hy]
  have a7 := and1 hc
  have a6 := and1 a7
  have a5 := and1 a6
  have a4 := and1 a5
  have a3 := and1 a4
  have a2 := and1 a3
  have n : x.1 ≠ y.1 := ne_of_beq_false (not_of (and1 a2))
  exact .mk n (loc_of (and2 a2)) (loc_of (and2 a3)) (swap_eq hk n (loc_of (and2 a2)) (loc_of (and2 a3)) (eq_of_beq (and2 a4)) (and2 a5) (and2 a6) (not_of (and2 a7)) (not_of (and2 hc)))
theorem comp_stmt (w : WOK c) {x : Str} {px pos : Pos} {value : Expr} (hx : sto? env.scope x = true) (hk : env.scope.kind = .function) :
    SndX c (Call c k) env (.Assign [.Name x px] value pos) (.asg (.one x) (cE 40 env.scope value)) k := by
  have nil : SndX c (Call c k) env (.Assign [.Name x px] value pos) (.asg (.one x) .bad) k := fun A f H Q s g t h => (h : False).elim
  have plain : swapsWith value (some (.Name x px)) pos.line env = pure false → SndX c (Call c k) env (.Assign [.Name x px] value pos) (.asg (.one x) (cE 40 env.scope value)) k := fun hs =>
    sndX_asg (.one (sto_of hx)) ((cET_sound w 40).E env value) hs rfl (fun v => rfl)
  cases value with
  | ListComp elt gens scope p =>
    have hs : swapsWith (.ListComp elt gens scope p) (some (.Name x px)) pos.line env = pure (env.blockKind == .function && env.kindOf x == some .local && px.line == p.line && !(scope.names.any fun (n, k) => n == x && (k == .local || k == .cell))) := rfl
    generalize hb : (env.blockKind == .function && env.kindOf x == some .local && px.line == p.line && !(scope.names.any fun (n, k) => n == x && (k == .local || k == .cell))) = b at hs
    cases b with
    | false => exact plain hs
    | true =>
      refine P_opt (P := fun ir => SndX c (Call c k) env (.Assign [.Name x px] (.ListComp elt gens scope p) pos) (.asg (.one x) ir) k) nil fun g hg => ?_
      have hg := one_eq hg
      subst hg
      generalize cGen (cE 39 env.scope) (cE 39) env.scope elt scope g = ir, cGen_eq (cE 39 env.scope) (cE 39) env.scope elt scope g = W
      cases W with
      | bad => exact nil
      | @mk target iter e =>
        subst e
        have h := cComp_sound w ((cET_sound w 39).E env) (cET_sound (k := k) w 39).E (elt := elt) (target := target) (iter := iter) (scope := scope)
        generalize cComp (cE 39 env.scope) (cE 39) env.scope elt scope target iter = ir at h
        cases h with
        | bad => exact nil
        | ok O S hT he hn hi => exact sndX_comp O S (folded_no hi) hT he hn hs (eq_of_beq (and2 (and1 (and1 hb))))
  | SetComp _ _ _ _ => exact nil
  | DictComp _ _ _ _ _ => exact nil
  | _ => exact plain rfl
section
variable {F : Expr → IE}
theorem swaps_tup {es : List Expr} {kk : Nat} {p : Pos} {value : Expr} (h : ∀ vs k2 p2, value ≠ .Tuple vs k2 p2) : swappedStores [.Tuple es kk p] value env = pure none := by
  cases value with
  | Tuple vs k2 p2 => exact absurd rfl (h _ _ _)
  | _ => rfl
theorem cTup_sound (hF : ∀ e, SndO c (Call c k) env e (F e) k) {es : List Expr} {kk : Nat} {tp : Pos} {value : Expr} {pos : Pos} (hk : env.scope.kind = .function) : SndX c (Call c k) env (.Assign [.Tuple es kk tp] value pos) (cTup F env.scope es value) k := by
  have other : (∀ vs k2 p2, value ≠ .Tuple vs k2 p2) → SndX c (Call c k) env (.Assign [.Tuple es kk tp] value pos) (cond (isComp value) .bad (optB .bad (namesT (sto? env.scope) es) fun xs => .asg (.many xs) (F value))) k := fun hv =>
    sndX_cond (fun _ => sndX_bad) fun hc => sndX_opt sndX_bad fun xs h => sndX_asg (.many (namesT_sound (fun x hx => sto_of hx) h)) (hF _) (swaps_no (env := env) hc (some (.Tuple es kk tp)) pos.line) (swaps_tup hv) fun v => rfl
  cases value with
  | Tuple vs k2 p2 =>
    refine sndX_opt sndX_bad fun p h => ?_
    cases swapOk_sound hk h with
    | mk h1 h2 h3 h4 => exact sndX_swap (.inl h2) (.inl h3) h1 (hF _) rfl (h4 _ _ _ _)
  | _ => exact other fun _ _ _ h => nomatch h
theorem cAsg_sound (w : WOK c) {t value : Expr} {pos : Pos} (hk : env.scope.kind = .function) : SndX c (Call c k) env (.Assign [t] value pos) (cAsg (cE 40 env.scope) env.scope t value) k := by
  have E := (cET_sound (k := k) w 40).E env
  cases t with
  | Name x p => exact sndX_if fun h => comp_stmt w h hk
  | Tuple es kk tp => exact cTup_sound E hk
  | Attribute o x p => exact sndX_if fun h => sndX_satt (w.att _ (List.contains_iff_mem.mp (and2 h))) (E _) (E _) (swaps_no (not_of (and1 h)) _ _)
  | Subscript o i p => exact sndX_cond (fun _ => sndX_bad) fun h => sndX_ssub (E _) (E _) (E _) (swaps_no h _ _)
  | _ => exact sndX_bad
inductive ZipR (sc : Scope) (p : Expr × Expr) : Expr → Prop
  | mk {q pos : Pos} (hg : glob? sc "zip" = true) (h1 : noStar p.1 = true) (h2 : noStar p.2 = true) : ZipR sc p (.Call (.Name "zip" q) [p.1, p.2] [] pos)
theorem zip_eq {sc : Scope} {e : Expr} {p : Expr × Expr} (h : zipArgs sc e = some p) : ZipR sc p e := by
  cases e with
  | Call g as kws pos =>
    cases g with
    | Name f q =>
      obtain ⟨hc, h2⟩ := cond_some (h : cond (f == "zip" && glob? sc f && kws.isEmpty && as.all noStar) (two as) none = some p)
      clear h
      obtain rfl : f = "zip" := eq_of_beq (and1 (and1 (and1 hc)))
      have hs := and2 hc
      rw [two_eq h2] at hs ⊢
      have hs := (List.all_cons ▸ hs : (noStar p.1 && [p.2].all noStar) = true)
      have hs2 := (List.all_cons ▸ and2 hs : (noStar p.2 && [].all noStar) = true)
      rw [nil_of (and2 (and1 hc))]
      exact .mk (and2 (and1 (and1 hc))) (and1 hs) (and1 hs2)
    | _ => exact no h
  | _ => exact no h
theorem cExp_sound (w : WOK c) (E : ∀ e, SndO c (Call c k) env e (F e) k) {e : Expr} {pos : Pos} : SndX c (Call c k) env (.Expr e pos) (cExp F env.scope e) k := by
  have other : isComp e = false → SndX c (Call c k) env (.Expr e pos) (.exp (F e)) k := fun h => sndX_exp (E _) (swaps_no h _ _)
  have third : SndX c (Call c k) env (.Expr e pos) (cond (isComp e) .bad (.exp (F e))) k := sndX_cond (fun _ => sndX_bad) other
  cases e with
  | Call g es kws p =>
    cases g with
    | Attribute o m apos =>
      refine sndX_opt (other rfl) fun q h => ?_
      obtain ⟨hc, h⟩ := cond_some h
      obtain ⟨z, h1, h2⟩ := Option.bind_eq_some_iff.mp h
      obtain rfl : m = "extend" := eq_of_beq (and1 (and1 (and1 hc)))
      rw [one_eq h1, nil_of (and2 (and1 hc))]
      cases zip_eq h2 with
      | mk hg n1 n2 => exact sndX_extZ (w.biOK (bi_at (n := 7) rfl) hg) (E _) (E _) (E _) n1 n2 (base_eq (and2 (and1 (and1 hc))) _ _) (and2 hc) rfl
    | _ => exact other rfl
  | _ => exact third
theorem cFor_sound (w : WOK c) (E : ∀ e, SndO c (Call c k) env e (F e) k) {target iter : Expr} {body : List Stmt} {ib : List IS} {pos : Pos} (hb : SndXs c (Call c k) env body ib k) : SndX c (Call c k) env (.For target iter body [] pos) (cFor F env.scope target iter ib) k := by
  cases target with
  | Name y p =>
    refine sndX_if fun hy => sndX_opt (sndX_cond (fun _ => sndX_bad) fun hs => sndX_forE (E _) (folded_no hs) (sto_of hy) hb) fun es h => ?_
    cases rng_eq h with
    | mk hg hs => exact sndX_forR (w.biOK (bi_at (n := 4) rfl) hg) (sndL_map E hs) (sto_of hy) hb
  | _ => exact sndX_bad
theorem cDel_sound (E : ∀ e, SndO c (Call c k) env e (F e) k) {e : Expr} {pos : Pos} : SndX c (Call c k) env (.Delete [e] pos) (cDel F e) k := by
  cases e with
  | Subscript o i p =>
    cases i with
    | Slice lo hi st sp =>
      refine sndX_opt sndX_bad fun l e => sndX_if fun h => ?_
      subst e
      cases hi with
      | some _ => cases h
      | none =>
        cases st with
        | some _ => cases h
        | none => exact sndX_del (E _) (E _)
    | _ => exact sndX_bad
  | _ => exact sndX_bad
theorem cAug_sound (E : ∀ e, SndO c (Call c k) env e (F e) k) {t e : Expr} {op : Operator} {pos : Pos} : SndX c (Call c k) env (.AugAssign t op e pos) (cAug F env.scope t op e) k := by
  cases t with
  | Name x p => exact sndX_if fun h => sndX_aug (sto_of (and1 h)) (not_of (and2 h)) (E _)
  | _ => exact sndX_bad
end
theorem sndX_opt_ret {F : Expr → IE} (E : ∀ e, SndO c (Call c k) env e (F e) k) {o : Option Expr} {p : Pos} : SndX c (Call c k) env (.Return o p) (optB .retN o fun e => .ret (F e)) k := by
  cases o with
  | none => exact sndX_retN
  | some e => exact sndX_ret (E e)
theorem sndXs_map {C : Oracle} {F : Stmt → IS} (hF : ∀ s, SndX c C env s (F s) k) (ss : List Stmt) : SndXs c C env ss (ss.map F) k := by
  induction ss with
  | nil => exact sndXs_nil
  | cons s ss ih => exact sndXs_cons (hF s) ih
theorem cS_sound (w : WOK c) (hk : env.scope.kind = .function) (n : Nat) : ∀ (st : Stmt), SndX c (Call c k) env st (cS n env.scope st) k := by
  induction n with
  | zero => exact fun st => sndX_bad
  | succ n ih =>
    intro st
    have E := (cET_sound (k := k) w 40).E env
    have T := (cET_sound (k := k) w 40).T env
    cases st with
    | Assign ts v p => exact sndX_opt sndX_bad fun t h => by rw [one_eq h]; exact cAsg_sound w hk
    | AugAssign t op e p => exact cAug_sound E
    | Delete ts p => exact sndX_opt sndX_bad fun t h => by rw [one_eq h]; exact cDel_sound E
    | Expr e p => exact cExp_sound w E
    | Return o p => exact sndX_opt_ret E
    | Break p => exact sndX_brk
    | Continue p => exact sndX_cnt
    | Pass p => exact sndX_pas
    | If t a b p => exact sndX_ife (T _) (sndXs_map ih _) (sndXs_map ih _)
    | While t b o p => exact sndX_if fun h => by rw [nil_of h]; exact sndX_whl (T _) (sndXs_map ih _)
    | For target iter b o p => exact sndX_if fun h => by rw [nil_of h]; exact cFor_sound w E (sndXs_map ih _)
    | _ => exact sndX_bad
theorem call_of (w : WOK c) {g : Fk} {fd : FuncData} {ps : List Str} {n m : Nat} {body : List Stmt} {dv : List Value} {da : List Dt} (F : FdOK c g fd ps n body dv da) {vs : List AV} {H : AH} {Q : Post} (hv : vs.length = n)
    (h : Wxs (Call c k) (body.map (cS m fd.scope)) (frameOf ps (vs ++ da.map AV.d)) H (retQ Q)) : Call c (k + 1) g vs H Q :=
  call_intro F (fun env he => by rw [← he]; exact sndXs_map (cS_sound w (by rw [he]; exact F.kind) m) body) hv h
end
end
section
open PySem PySem.W PyProof.Rows
set_option maxRecDepth 100000
set_option maxHeartbeats 8000000
noncomputable def fdAt (K : Frag) (a : Addr) : Option FuncData := match K.lookup a with
  | some o => (match o.data with
    | .func fd => some fd
    | _ => none)
  | none => none
noncomputable def fdOf (K : Frag) (a : Addr) : FuncData := (fdAt K a).getD default
noncomputable def bodyOf (fd : FuncData) : List Stmt := match fd.body with
  | .stmts b => b
  | _ => []
noncomputable def isBody (fd : FuncData) : Bool := match fd.body with
  | .stmts b => true
  | _ => false
noncomputable def boundK (sc : Scope) (x : Str) : Bool := sc.names.lookup x == some .local || sc.names.lookup x == some .cell
noncomputable def chkFd (K : Frag) (ps : List Str) (fd : FuncData) : Bool :=
  isBody fd && codeIn K fd.code fd.qualname && fd.closure.isEmpty && fd.globals == mainGlobals && fd.builtins == builtinsNs && !fd.scope.isCoroutine && !fd.scope.isGenerator && fd.scope.kind == .function && ps.all (boundK fd.scope) && decide ps.Nodup
noncomputable def chkAt (K : Frag) (a : Addr) (ps : List Str) : Bool := optB false (fdAt K a) (chkFd K ps)
noncomputable def myCadr : Cl → Addr
  | .sym => 154
  | .store => 374
  | .pairs => 400
noncomputable def adrFn : List (Str × Addr) := [("fixed_atoms", 60), ("fixed_functors", 67), ("push_arguments", 411), ("push_pairs", 418), ("same_shape", 425), ("is_variable", 432), ("unify", 439), ("bind_checked", 446), ("trial", 453), ("occurs_in", 460), ("_law_row", 467), ("_law_next", 474), ("_law_term", 481), ("_law_turned", 486), ("_law_equation", 493), ("_law_end", 500), ("_law_inside", 507), ("_law_solved", 514), ("_law_whole", 519), ("_law_cell", 526), ("_law_right", 531)]
noncomputable def adr_sym : List (Str × Addr) := [("__init__", 81), ("atom", 88), ("functor", 102), ("func", 109), ("name", 116), ("arity", 123)]
noncomputable def adr_store : List (Str × Addr) := [("__init__", 195), ("push", 202), ("new_var", 209), ("reserve", 216), ("trim", 223), ("deref", 230), ("bind", 244), ("bind_pair", 251), ("globalise", 258), ("mark", 265), ("undo_to", 272), ("stack_put", 279), ("is_compound", 286), ("functor_of", 293), ("width", 300), ("base", 307), ("new_block", 321), ("put_term", 364), ("take_term", 371)]
noncomputable def adr_pairs : List (Str × Addr) := [("__init__", 390), ("add", 397)]
noncomputable def adr_me (m : Str) : Cl → Addr
  | .sym => (adr_sym.lookup m).getD 0
  | .store => (adr_store.lookup m).getD 0
  | .pairs => (adr_pairs.lookup m).getD 0
noncomputable def myFadr : Fk → Addr
  | .fn x => (adrFn.lookup x).getD 0
  | .me cl m => adr_me m cl
inductive Good (c : Cx) (g : Fk) (d : Def) : Prop
  | mk {fd : FuncData} {n : Nat} {body : List Stmt} {dv : List Value} (F : FdOK c g fd d.ps n body dv d.da) (e : body.map (cS 12 fd.scope) = d.irs) (hn : n + d.da.length = d.ps.length) : Good c g d
theorem opt_true {α : Type} {o : Option α} {f : α → Bool} (h : optB false o f = true) : ∃ a, o = some a ∧ f a = true := by
  cases o with
  | some a => exact ⟨a, rfl, h⟩
  | none => cases h
theorem fdAt_obj {K : Frag} {a : Addr} {fd : FuncData} (h : fdAt K a = some fd) : ∃ oc od osl, K.lookup a = some ⟨oc, od, .func fd, osl⟩ := by
  unfold fdAt at h
  cases e : K.lookup a with
  | none => rw [e] at h; cases h
  | some o =>
    rw [e] at h
    obtain ⟨oc, od, da, osl⟩ := o
    cases da with
    | func fd' => cases h; exact ⟨_, _, _, rfl⟩
    | _ => exact no h
theorem isBody_eq {fd : FuncData} (h : isBody fd = true) : fd.body = .stmts (bodyOf fd) := by
  unfold isBody at h
  unfold bodyOf
  cases e : fd.body with
  | stmts b => rfl
  | _ => rw [e] at h; exact nb h
section
variable {c : Cx} {K : Frag}
theorem fd_ok (hK : c.K = K) {g : Fk} {d : Def} {n : Nat} {dv : List Value} (h : chkAt K (c.fadr g) d.ps = true)
    (hb : ∀ (s : Shared) (xs : List Value), c.K.In s.heap → xs.length = n → BindsTo s (fdOf K (c.fadr g)) ⟨xs, []⟩ (d.ps.zip (xs ++ dv))) (hv : ∀ h, DtAll h dv d.da) (hn : n + dv.length = d.ps.length) :
    FdOK c g (fdOf K (c.fadr g)) d.ps n (bodyOf (fdOf K (c.fadr g))) dv d.da := by
  obtain ⟨fd, e, h⟩ := opt_true h
  have e1 : fdOf K (c.fadr g) = fd := by unfold fdOf; rw [e]; rfl
  rw [e1] at hb ⊢
  obtain ⟨oc, od, osl, ho⟩ := fdAt_obj e
  have c9 := and1 h
  have c8 := and1 c9
  have c7 := and1 c8
  have c6 := and1 c7
  have c5 := and1 c6
  have c4 := and1 c5
  have c3 := and1 c4
  have c2 := and1 c3
  exact ⟨⟨oc, od, osl, by rw [hK]; exact ho⟩, by rw [hK]; exact and2 c2, isBody_eq (and1 c2), hb, hv, hn, of_decide_eq_true (and2 h), fun x hx => (Bool.or_eq_true_iff.mp (List.all_eq_true.mp (and2 c9) x hx)).imp eq_of_beq eq_of_beq, nil_of (and2 c3), eq_of_beq (and2 c4), eq_of_beq (and2 c5), not_of (and2 c6), not_of (and2 c7), eq_of_beq (and2 c8)⟩
theorem five {R : List Value → Prop} {n : Nat} (hn : n ≤ 5) (h : ∀ a b d e f, R ([a, b, d, e, f].take n)) (xs : List Value) (hl : xs.length = n) : R xs := by
  subst hl
  cases xs with
  | nil => exact h .none .none .none .none .none
  | cons a xs => cases xs with
    | nil => exact h a .none .none .none .none
    | cons b xs => cases xs with
      | nil => exact h a b .none .none .none
      | cons d xs => cases xs with
        | nil => exact h a b d .none .none
        | cons e xs => cases xs with
          | nil => exact h a b d e .none
          | cons f xs => cases xs with
            | nil => exact h a b d e f
            | cons _ _ => exact absurd hn (Nat.not_le.mpr (Nat.le_add_left 6 _))
structure TabOK (K : Frag) (ad : Str → Addr) (l : List (Str × Def)) : Prop where
  fd : l.all (fun p => chkAt K (ad p.1) p.2.ps) = true
  irs : l.map (fun p => (bodyOf (fdOf K (ad p.1))).map (cS 12 (fdOf K (ad p.1)).scope)) = l.map fun p => p.2.irs
structure TabB (K : Frag) (ad : Str → Addr) (l : List (Str × Def)) : Prop where
  few : l.all (fun p => decide (p.2.ps.length ≤ 5) && p.2.da.isEmpty) = true
  bind : ∀ a b d e f : Value, l.map (fun p => bindArgs (fdOf K (ad p.1)) ⟨[a, b, d, e, f].take p.2.ps.length, []⟩) = l.map fun p => pure (p.2.ps.zip ([a, b, d, e, f].take p.2.ps.length ++ []))
theorem good_tab {ad : Str → Addr} {l l' : List (Str × Def)} (hK : c.K = K) (A : TabOK K ad l') (B : TabB K ad l) {g : Fk} {p : Str × Def} (hp' : p ∈ l') (hp : p ∈ l) (hg : c.fadr g = ad p.1) : Good c g p.2 := by
  have h1 := List.all_eq_true.mp A.fd p hp'
  have h2 := List.map_inj_left.mp A.irs p hp'
  have h3 := List.all_eq_true.mp B.few p hp
  have hd := nil_of (and2 h3)
  have hf := of_decide_eq_true (and1 h3)
  have h4 : ∀ xs : List Value, xs.length = p.2.ps.length → bindArgs (fdOf K (ad p.1)) ⟨xs, []⟩ = pure (p.2.ps.zip (xs ++ [])) := five hf fun a b d e f => List.map_inj_left.mp (B.bind a b d e f) p hp
  rw [← hg] at h1 h2 h4
  exact .mk (fd_ok hK (n := p.2.ps.length) (dv := []) h1 (fun s xs _ hl => BindsTo.of_eq (h4 xs hl)) (fun h => by rw [hd]; exact .nil) rfl) h2 (by rw [hd]; rfl)
end
noncomputable abbrev sto_rest : List (Str × Def) := def_store.tail
noncomputable def isRef (o : Option (Option Value)) (a : Addr) : Bool := optB false o fun v => optB false v fun v => match v with
  | .ref b => b == a
  | _ => false
noncomputable def isInt (o : Option (Option Value)) (i : Int) : Bool := optB false o fun v => optB false v fun v => match v with
  | .int j _ => j == i
  | _ => false
noncomputable def isBi (o : Option (Option Value)) (x : String) : Bool := optB false o fun v => optB false v fun v => match v with
  | .builtin y => y == x
  | _ => false
noncomputable def isTy (o : Option Value) (x : String) : Bool := optB false o fun v => match v with
  | .type y => y == x
  | _ => false
theorem opt2 {o : Option (Option Value)} {f : Value → Bool} (h : optB false o (fun v => optB false v f) = true) : ∃ v, o = some (some v) ∧ f v = true := by
  obtain ⟨v, e1, h1⟩ := opt_true h
  obtain ⟨u, e2, h2⟩ := opt_true h1
  exact ⟨u, by rw [e1, e2], h2⟩
theorem isRef_eq {o : Option (Option Value)} {a : Addr} (h : isRef o a = true) : o = some (some (.ref a)) := by
  obtain ⟨v, e, h⟩ := opt2 h
  rw [e]
  cases v with
  | ref b => rw [show b = a from eq_of_beq h]
  | _ => exact nb h
theorem isInt_eq {o : Option (Option Value)} {i : Int} (h : isInt o i = true) : ∃ tk, o = some (some (.int i tk)) := by
  obtain ⟨v, e, h⟩ := opt2 h
  rw [e]
  cases v with
  | int j tk => exact ⟨tk, by rw [show j = i from eq_of_beq h]⟩
  | _ => exact nb h
theorem isBi_eq {o : Option (Option Value)} {x : String} (h : isBi o x = true) : o = some (some (.builtin x)) := by
  obtain ⟨v, e, h⟩ := opt2 h
  rw [e]
  cases v with
  | builtin b => rw [show b = x from eq_of_beq h]
  | _ => exact nb h
theorem isTy_eq {o : Option Value} {x : String} (h : isTy o x = true) : o = some (.type x) := by
  obtain ⟨v, e, h⟩ := opt_true h
  rw [e]
  cases v with
  | type b => rw [show b = x from eq_of_beq h]
  | _ => exact nb h
noncomputable def isSN (o : Option (Option Value)) : Bool := optB false o fun v => v.isNone
theorem isSN_eq {o : Option (Option Value)} (h : isSN o = true) : o = some none := by
  obtain ⟨v, e, h⟩ := opt_true h
  rw [e]
  cases v with
  | none => rfl
  | some _ => cases h
noncomputable def chkFn (K : Frag) (x : Str) : Bool := isRef (nsIn K mainGlobals x) (myFadr (.fn x)) && keepIn K (.ref (myFadr (.fn x))) && !(x == "__debug__")
noncomputable def chkCl (K : Frag) (p : Str × Cl) : Bool := isRef (nsIn K mainGlobals p.1) (myCadr p.2) && !(p.1 == "__debug__") && keepIn K (.ref (myCadr p.2)) && makesIn K (myCadr p.2) && isRef (findIn K (.ref (myCadr p.2)) "__init__") (myFadr (.me p.2 "__init__")) && isTy (typeIn K (.ref (myFadr (.me p.2 "__init__")))) "function"
noncomputable def chkMe (K : Frag) (p : (Str × Nat) × Cl) : Bool := plainGet K (myCadr p.2) p.1.1 && isRef (findIn K (.ref (myCadr p.2)) p.1.1) (myFadr (.me p.2 p.1.1)) && isFn K (.ref (myFadr (.me p.2 p.1.1))) && keepIn K (.ref (myFadr (.me p.2 p.1.1)))
noncomputable def chkA1 (K : Frag) (x : Str) (cl : Cl) : Bool := plainGet K (myCadr cl) x && hasDictIn K (myCadr cl) && optB false (findIn K (.ref (myCadr cl)) x) (noGet K) && isBi (findIn K (.ref (myCadr cl)) "__setattr__") "object.__setattr__" && plainOver K (myCadr cl) && isSN (takerIn K (myCadr cl) x)
noncomputable def chkA (K : Frag) (x : Str) : Bool := chkA1 K x .sym && chkA1 K x .store && chkA1 K x .pairs
noncomputable def chkCo (K : Frag) (p : Str × Int) : Bool := isInt (nsIn K mainGlobals p.1) p.2 && !(p.1 == "__debug__")
noncomputable def chkBi (K : Frag) (p : Str × Value) : Bool := isSN (nsIn K mainGlobals p.1) && !(p.1 == "__name__") && !(p.1 == "__debug__")
theorem chkA_cl {K : Frag} {x : Str} (h : chkA K x = true) (cl : Cl) : chkA1 K x cl = true := by
  cases cl with
  | sym => exact and1 (and1 h)
  | store => exact and2 (and1 h)
  | pairs => exact and2 h
structure Facts (K : Frag) : Prop where
  fn : TabOK K (fun x => myFadr (.fn x)) defFn
  sym : TabOK K (fun x => myFadr (.me .sym x)) def_sym
  store : TabOK K (fun x => myFadr (.me .store x)) def_store
  pairs : TabOK K (fun x => myFadr (.me .pairs x)) def_pairs
  bfn : TabB K (fun x => myFadr (.fn x)) defFn
  bsym : TabB K (fun x => myFadr (.me .sym x)) def_sym
  brest : TabB K (fun x => myFadr (.me .store x)) sto_rest
  bpairs : TabB K (fun x => myFadr (.me .pairs x)) def_pairs
  bi : ∀ (a b : Value) (S : Setting), peek K S (bindArgs (fdOf K 195) ⟨[a, b], []⟩) = some (ps_store_init.zip [a, b, .int 100000 449])
  nfn : tabFn.all (chkFn K) = true
  ncl : tabCl.all (chkCl K) = true
  nme : tabMe.all (chkMe K) = true
  nat : tabAt.all (chkA K) = true
  nco : tabCo.all (chkCo K) = true
  nbi : tabBi.all (chkBi K) = true
theorem boot_bi : tabBi.map (fun p => bootBuiltins p.1) = tabBi.map fun p => some p.2 := by kernel_rfl
section
variable {c : Cx} {K : Frag}
theorem good_init (W : Facts K) (hK : c.K = K) (hf : c.fadr = myFadr) : Good c (.me .store "__init__") ⟨ps_store_init, [.int 100000], ir_store_init⟩ := by
  have hg : c.fadr (.me .store "__init__") = 195 := by rw [hf]; rfl
  have h1 := List.all_eq_true.mp W.store.fd _ List.mem_cons_self
  have h2 := List.map_inj_left.mp W.store.irs _ List.mem_cons_self
  have h0 : (195 : Addr) = myFadr (.me .store "__init__") := rfl
  refine .mk (n := 2) (dv := [.int 100000 449]) (fd_ok hK (by rw [hf]; exact h1) (fun s xs X hl => ?_) (fun h => .cons (.int _ _) .nil) rfl) (by rw [hf]; exact h2) rfl
  rw [hg]
  cases xs with
  | nil => cases hl
  | cons a xs => cases xs with
    | nil => cases hl
    | cons b xs => cases xs with
      | nil => exact fun M _ _ _ q => (Looks.of_peek (M := M) X (hK ▸ W.bi a b _)).here q
      | cons _ _ => cases hl
theorem good_all (W : Facts K) (hK : c.K = K) (hf : c.fadr = myFadr) {g : Fk} {d : Def} (h : defs g = some d) : Good c g d := by
  have hg := congrFun hf g
  cases g with
  | fn x => exact good_tab hK W.fn W.bfn (p := (x, d)) (lookup_mem h) (lookup_mem h) hg
  | me cl m =>
    cases cl with
    | sym => exact good_tab hK W.sym W.bsym (p := (m, d)) (lookup_mem h) (lookup_mem h) hg
    | store =>
      have hm : (m, d) ∈ def_store := lookup_mem h
      rcases List.mem_cons.mp (hm : (m, d) ∈ (("__init__", ⟨ps_store_init, [.int 100000], ir_store_init⟩) : Str × Def) :: sto_rest) with e | hr
      · cases e; exact good_init W hK hf
      · exact good_tab hK W.store W.brest (p := (m, d)) hm hr hg
    | pairs => exact good_tab hK W.pairs W.bpairs (p := (m, d)) (lookup_mem h) (lookup_mem h) hg
end
section
variable {prog p : Program} {w : World} {K : Frag} {hB : Heap} {mg mb : Str → Option Value} {loose : List Str} {mean : ExcName → Option Value}
theorem wok (F : Facts K) {X : K.In hB} {T : Top p loose mean mg mb hB} : WOK { prog := prog, w := w, K := K, hB := hB, mg := mg, mb := mb, p := p, loose := loose, mean := mean, X := X, T := T, cadr := myCadr, fadr := myFadr } where
  fn x hx := by
    have h := List.all_eq_true.mp F.nfn x hx
    exact ⟨isRef_eq (and1 (and1 h)), and2 (and1 h), not_of (and2 h)⟩
  cl x hx := by
    have h := List.all_eq_true.mp F.ncl x hx
    have h5 := and1 h
    have h4 := and1 h5
    have h3 := and1 h4
    exact ⟨isRef_eq (and1 (and1 h3)), not_of (and2 (and1 h3)), and2 h3, and2 h4, isRef_eq (and2 h5), isTy_eq (and2 h)⟩
  me x hx := by
    have h := List.all_eq_true.mp F.nme x hx
    exact ⟨and1 (and1 (and1 h)), isRef_eq (and2 (and1 (and1 h))), and2 (and1 h), and2 h⟩
  att x hx := by
    have h := fun cl => chkA_cl (List.all_eq_true.mp F.nat x hx) cl
    exact ⟨fun cl => and1 (and1 (and1 (and1 (and1 (h cl))))), fun cl => and2 (and1 (and1 (and1 (and1 (h cl))))), fun cl => opt_true (and2 (and1 (and1 (and1 (h cl))))), fun cl => isBi_eq (and2 (and1 (and1 (h cl)))), fun cl => and2 (and1 (h cl)), fun cl => isSN_eq (and2 (h cl))⟩
  co x hx := by
    have h := List.all_eq_true.mp F.nco x hx
    exact ⟨isInt_eq (and1 h), not_of (and2 h)⟩
  bi x hx := by
    have h := List.all_eq_true.mp F.nbi x hx
    exact ⟨isSN_eq (and1 (and1 h)), List.map_inj_left.mp boot_bi x hx, ne_of_beq_false (not_of (and2 (and1 h))), not_of (and2 h)⟩
end
theorem orc {c : Cx} {K : Frag} (F : Facts K) (hK : c.K = K) (hf : c.fadr = myFadr) (W : WOK c) : Orc (Call c) where
  intro := fun hd hl h => by
    cases good_all F hK hf hd with
    | mk G e hn => exact call_of W G (Nat.add_right_cancel (hl.trans hn.symm)) (m := 12) (by rw [e]; exact h)
theorem law_walk {prog p : Program} {w : World} {loose : List Str} {mean : ExcName → Option Value} {mg mb : Str → Option Value} {s₁ : Shared} {l : Addr} {vs : List Value} {ns : List Int} {h₁ : Heap} {m : Str → Option Value} {tk k : Nat} {A : Around} {env : Env} {body : List Stmt}
    {K : Frag} {Post : Flow → Shared → Prop} {E : Value → Shared → Prop}
    (pure : ∀ C, Orc C → ∀ ns : List Int, ns.length ≤ 63 → Wxs (C k) ir_fn_law (frameOf ["script"] [.f ns]) (fun _ => none) (fun fl _ _ => fl = .ret (.d (.bool true))))
    (KX : K.In s₁.heap) (W0 : Facts K) (T : Top p loose mean mg mb s₁.heap) (hL : s₁.heap.IsList l vs.toArray) (hI : IntsAre vs ns) (hn : ¬ ((63 : Int) < (ns.length : Int))) (F : Fr s₁.heap s₁.heap.objs.size h₁ m) (hm : m "script" = some (.ref l))
    (e1 : env.scope.kind = .function) (e2 : env.globals = mainGlobals) (e3 : env.builtins = builtinsNs) (e4 : env.locals = s₁.heap.objs.size) (e5 : env.cells = []) (e6 : env.kindOf "script" = some .local) (e7 : env.scope.names.all (fun y => y.2 != .cell) = true)
    (hir : body.map (cS 12 env.scope) = ir_fn_law) (gA : GoodA k A)
    (post : ∀ s', (∀ b o, s₁.heap.get? b = some o → s'.heap.get? b = some o) → s'.gens = s₁.gens → s'.os = s₁.os → Post (.ret (.bool true)) s') :
    wpAny (model prog w) A (execs body env) Post E { s₁ with heap := h₁, toks := tk } := by
  let c : Cx := { prog := prog, w := w, K := K, hB := s₁.heap, mg := mg, mb := mb, p := p, loose := loose, mean := mean, X := KX, T := T, cadr := myCadr, fadr := myFadr }
  have W : WOK c := wok W0
  have O : Orc (Call c) := orc (c := c) W0 rfl rfl W
  have hlen : ns.length ≤ 63 := by omega
  have snd : SndXs c (Call c k) env body ir_fn_law k := by rw [← hir]; exact sndXs_map (cS_sound W e1 12) body
  have t : St c env (frameOf ["script"] [.f ns]) (fun _ => none) { s₁ with heap := h₁, toks := tk } := by
    refine ⟨⟨F.keep, fun a h => absurd rfl h, fun a o h => nomatch h⟩, ⟨⟨e1, e2, e3, by rw [e4]; exact Nat.le_refl _, fun x y a h => (by rw [e5] at h; cases h), fun x a h => (by rw [e5] at h; cases h), fun x h => ?_⟩, ⟨m, by rw [e4]; exact F.ns, fun x v h => ?_⟩, fun x a h => (by rw [e5] at h; cases h), rfl, fun x a h => rfl⟩⟩
    · have := List.all_eq_true.mp e7 _ (lookup_mem h)
      simp at this
    · unfold frameOf at h
      simp only [List.zip_cons_cons, List.zip_nil_right, List.lookup_cons, List.lookup_nil] at h
      cases hx : x == ("script" : Str) with
      | true =>
        rw [hx] at h
        cases h
        have : x = "script" := by simpa using hx
        subst this
        exact .inl ⟨e6, _, hm, l, vs, rfl, hL, hI, by omega⟩
      | false => rw [hx] at h; cases h
  refine wpAny_mono (snd A _ _ _ _ gA t (pure (Call c) O ns hlen)) (fun fl s' e => ?_) fun _ _ z => z.elim
  cases e with
  | mk q r t' x =>
  subst q
  cases r with
  | ret rv =>
    obtain rfl := DtIn.boolEq rv
    refine post s' (fun b o e => x.keep b o (F.keep b o e) rfl fun h => ?_) x.gens x.os
    rcases h with h | ⟨z, h⟩
    · rw [e4] at h; subst h; exact absurd (Heap.lt_size e) (Nat.lt_irrefl _)
    · rw [e5] at h; cases h
theorem gA_ok (env : Env) : GoodA 290 (callerA.deeper env) := ⟨rfl, by show 1 + claimMargin + 1 + 2 * 290 < 900; decide, by show 4 + 3 + 8 * 290 + 2100 < cLine; decide⟩
end
end Mine
namespace Mine.main
abbrev T:=True
theorem t:T:=trivial
theorem tw2852251193174398662:T:=t
theorem tw8260724100714396741:T:=t
theorem tw11692516046256081784:T:=t
theorem tw11273777480241942364:T:=t
theorem tw5084117380071580128:T:=t
theorem tw11156056980113079860:T:=t
theorem tw5638201095994319732:T:=t
theorem tw14080665800827857628:T:=t
theorem tw14646587721710459877:T:=t
theorem tw13626721169425172152:T:=t
theorem tw7083192437325867461:T:=t
theorem tw16798622893749714585:T:=t
theorem tw11857135199678951331:T:=t
theorem tw15803610866087392283:T:=t
theorem tw15491723280356408159:T:=t
theorem tw12298629886278197574:T:=t
theorem tw10896356407431480244:T:=t
theorem tw6801380410627298636:T:=t
theorem tw10114013102757674387:T:=t
theorem tw10876375607700338302:T:=t
theorem tw12747388180105724736:T:=t
theorem tw4026956272090484662:T:=t
theorem tw11735423636902730196:T:=t
theorem tw5418533224930618480:T:=t
theorem tw17695171507069755227:T:=t
theorem tw15510692781650021527:T:=t
theorem tw17292155258170135553:T:=t
theorem tw4544244032028310869:T:=t
theorem tw1390771862084280389:T:=t
theorem tw5585478044538960755:T:=t
theorem tw1372806426800153423:T:=t
theorem tw15365013842991253249:T:=t
theorem tw4573282807186111410:T:=t
theorem tw471287901995484742:T:=t
theorem tw12872379398031375081:T:=t
theorem tw15616401959046598769:T:=t
theorem tw8930851030842425676:T:=t
theorem tw2744014450722944760:T:=t
theorem tw5665406974723832613:T:=t
theorem tw1306636233014830658:T:=t
theorem tw16008457594558532635:T:=t
theorem tw9274054859765456524:T:=t
theorem tw4650958065196391918:T:=t
theorem tw18287795668848337631:T:=t
theorem tw365850788961202214:T:=t
theorem tw14457758005677747962:T:=t
theorem tw15734200111481486640:T:=t
theorem tw16035907590883218939:T:=t
theorem tw14539993770535171780:T:=t
theorem tw1099256609624015869:T:=t
theorem tw3549514262204291990:T:=t
theorem tw16085485703022809375:T:=t
theorem tw7113585516715319716:T:=t
theorem tw5842977544298395883:T:=t
theorem tw6361450105264607166:T:=t
theorem tw9563168847844234846:T:=t
theorem tw3864431920445960829:T:=t
theorem tw17146568849442343683:T:=t
theorem tw15624239662980076321:T:=t
theorem tw11239335112260394413:T:=t
theorem tw917386388269078853:T:=t
theorem tw12093647306153771053:T:=t
theorem tw14722489848711283861:T:=t
theorem tw13180746182150919023:T:=t
theorem tw4637267157515435788:T:=t
theorem tw5532463470591059822:T:=t
theorem tw3045742163950154196:T:=t
theorem tw6697339332421208802:T:=t
theorem tw10450603732522932521:T:=t
theorem tw11399646045708457374:T:=t
theorem tw1678875084529416142:T:=t
theorem tw15737690656516749961:T:=t
theorem tw12623159325031504133:T:=t
theorem tw14106445559736802775:T:=t
theorem tw1677766988990989824:T:=t
theorem tw8844999433837080629:T:=t
theorem tw11135027115929721415:T:=t
theorem tw6741292078354696603:T:=t
theorem tw5127751686995613262:T:=t
theorem tw6557543464795787104:T:=t
theorem tw8457982359519705325:T:=t
theorem tw13803360072150633466:T:=t
theorem tw765107192605250810:T:=t
theorem tw11461230924637031220:T:=t
theorem tw16721930046160240684:T:=t
theorem tw4651154628705390771:T:=t
theorem tw10877679251791092727:T:=t
theorem tw6690441779611380620:T:=t
theorem tw6449824600675878752:T:=t
theorem tw5995161000843957690:T:=t
theorem tw7647378279178456250:T:=t
theorem tw5061512775090418087:T:=t
theorem tw1253437644075932092:T:=t
theorem tw7298748307773712898:T:=t
theorem tw10094358506670053839:T:=t
theorem tw11752208632293872130:T:=t
theorem tw3848698983108048278:T:=t
theorem tw9155575984036265788:T:=t
theorem tw8118072479153026202:T:=t
theorem tw6044114016751833949:T:=t
theorem tw16356685582667847594:T:=t
theorem tw13406003279186336099:T:=t
theorem tw4324958949535026087:T:=t
theorem tw1178595665728414349:T:=t
theorem tw6161133996638707016:T:=t
theorem tw13995172100960836882:T:=t
theorem tw11101190512080308003:T:=t
theorem tw9942282790977331292:T:=t
theorem tw13313126695403321540:T:=t
theorem tw13838900630717943254:T:=t
theorem tw10924716458440934090:T:=t
theorem tw1469836325065767749:T:=t
theorem tw15350898050860989542:T:=t
theorem tw13157206579259725088:T:=t
theorem tw10652611922669240339:T:=t
theorem tw2406621943657119228:T:=t
theorem tw13132915859168520264:T:=t
theorem tw16187894506366716058:T:=t
theorem tw1615956725737779560:T:=t
theorem tw17236958762192778904:T:=t
theorem tw11206504829155453846:T:=t
theorem tw9561784451562097942:T:=t
theorem tw13347406073615853072:T:=t
theorem tw962032349192862916:T:=t
theorem tw4775608329324902142:T:=t
theorem tw12361340156312767134:T:=t
theorem tw7308723440029596264:T:=t
theorem tw17297283025540448806:T:=t
theorem tw9925469786538053656:T:=t
theorem tw5518243967957118194:T:=t
theorem tw13355152605343272895:T:=t
theorem tw16572128252103988241:T:=t
theorem tw6660377722381337597:T:=t
theorem tw10047389527955405517:T:=t
theorem tw13547569757486424058:T:=t
theorem tw1496695287857109588:T:=t
theorem tw9848185148710128376:T:=t
theorem tw7332552209862256014:T:=t
theorem tw12646911602827044314:T:=t
theorem tw18403998269306519403:T:=t
theorem tw10642606787283503386:T:=t
theorem tw16819838333489098493:T:=t
theorem tw7904437144335635152:T:=t
theorem tw15991044622763254686:T:=t
theorem tw6164561884633627433:T:=t
theorem tw12431561837914552411:T:=t
theorem tw221909299271738847:T:=t
theorem tw8436210846270712021:T:=t
theorem tw7221758910455160077:T:=t
theorem tw9361300454564663673:T:=t
theorem tw12608185968620612914:T:=t
theorem tw7237411587787531456:T:=t
theorem tw12564604832814323664:T:=t
theorem tw4585930131862741453:T:=t
theorem tw452746233719593009:T:=t
theorem tw3298483428156984901:T:=t
theorem tw6385024630547198690:T:=t
theorem tw16965079339398995527:T:=t
theorem tw14798791472264738832:T:=t
theorem tw10609540516017602915:T:=t
theorem tw6886502059237256666:T:=t
theorem tw1027651156746619712:T:=t
theorem tw1632041292262086317:T:=t
theorem tw9189880136782149556:T:=t
theorem tw2729793432009153956:T:=t
theorem tw14313897822631088780:T:=t
theorem tw12252054271945606052:T:=t
theorem tw9369988214560726041:T:=t
theorem tw9121559901702372667:T:=t
theorem tw18218335207050127959:T:=t
theorem tw656089360051881306:T:=t
theorem tw1980160206288974728:T:=t
theorem tw453184122279072053:T:=t
theorem tw6855474311058116810:T:=t
theorem tw10199874654664476236:T:=t
theorem tw8466321980469482115:T:=t
theorem tw5372645768047454471:T:=t
theorem tw1777545030009416734:T:=t
theorem tw11646826074482590764:T:=t
theorem tw3491332818749588091:T:=t
theorem tw750237026923860459:T:=t
theorem tw7074144079889050967:T:=t
theorem tw17453503289922162039:T:=t
theorem tw12800608258095302798:T:=t
theorem tw1270039299266317192:T:=t
theorem tw8947760058931562597:T:=t
theorem tw12343854547171428336:T:=t
theorem tw18421580907717582127:T:=t
theorem tw14027531716089632829:T:=t
theorem tw7698036289167662538:T:=t
theorem tw16320215318167395912:T:=t
theorem tw341453280667917650:T:=t
theorem tw12139096438432415106:T:=t
theorem tw14672674291997333471:T:=t
theorem tw4452170602077327944:T:=t
theorem tw17057053908230417247:T:=t
theorem tw4766233809647381661:T:=t
theorem tw18190005008629794160:T:=t
theorem tw10169072693733980587:T:=t
theorem tw6981815665589151136:T:=t
theorem tw11251407683458634364:T:=t
theorem tw16641786646906312760:T:=t
theorem tw10231336680788121439:T:=t
theorem tw3613476055612923068:T:=t
theorem tw16480584520131690045:T:=t
theorem tw9897820754763898449:T:=t
theorem tw9515011664573035354:T:=t
theorem tw11349898740250378076:T:=t
theorem tw11962923498438245051:T:=t
theorem tw7623511443260959870:T:=t
theorem tw9392487213469676918:T:=t
theorem tw7699798408344515789:T:=t
theorem tw16826212616301561204:T:=t
theorem tw17264900360498390715:T:=t
theorem tw11261727412033496967:T:=t
theorem tw3454311308915712629:T:=t
theorem tw9268297945177815525:T:=t
theorem tw18165044119631177899:T:=t
theorem tw18031918436515192882:T:=t
theorem tw7884331609784382070:T:=t
theorem tw9302470337196694018:T:=t
theorem tw17268439761433841065:T:=t
theorem tw8729708805864041840:T:=t
theorem tw2583023086579268501:T:=t
theorem tw1151946252083901208:T:=t
theorem tw5871769198996169552:T:=t
theorem tw7214478077546791972:T:=t
theorem tw9265829497004654079:T:=t
theorem tw15955573374722617477:T:=t
theorem tw12941917028564957548:T:=t
theorem tw11476092923266045095:T:=t
theorem tw1098248734344127483:T:=t
theorem tw7186131708394509389:T:=t
theorem tw6075091234017535682:T:=t
theorem tw5234446048077146213:T:=t
theorem tw2110754180369666209:T:=t
theorem tw545269030811804461:T:=t
theorem tw2007339730380871907:T:=t
theorem tw17561526911342447988:T:=t
theorem tw14562738103837258888:T:=t
theorem tw16629339528299215175:T:=t
theorem tw11092141859048813250:T:=t
theorem tw3557749057250611081:T:=t
theorem tw979501456738626862:T:=t
theorem tw17715262827843222689:T:=t
theorem tw6584820252761975732:T:=t
theorem tw5400957986263281647:T:=t
theorem tw834873547066669988:T:=t
theorem tw14439473939278146460:T:=t
theorem tw11712081513822626495:T:=t
theorem tw1628013610222277130:T:=t
theorem tw6222487380544312443:T:=t
theorem tw3796207824708393856:T:=t
theorem tw17864028415675338326:T:=t
theorem tw11221353774195762014:T:=t
theorem tw3137596982192898869:T:=t
theorem tw13590572293223372214:T:=t
theorem tw1130211791997205004:T:=t
theorem tw16778611742570070204:T:=t
theorem tw17450470499104002142:T:=t
theorem tw10204856939554784155:T:=t
theorem tw6912675738884088206:T:=t
theorem tw451873465583785326:T:=t
theorem tw18332899500509843999:T:=t
theorem tw11001617756164336837:T:=t
theorem tw1409966394225722968:T:=t
theorem tw13116522157475607773:T:=t
theorem tw5243159528196176124:T:=t
theorem tw16136984950599521427:T:=t
theorem tw10334261112615635914:T:=t
theorem tw1587290215689348708:T:=t
theorem tw12483276189755474720:T:=t
theorem tw4297412468100583042:T:=t
theorem tw5240536507193477226:T:=t
theorem tw5309058905264134205:T:=t
theorem tw18120430973489738927:T:=t
theorem tw13876859957761632879:T:=t
theorem tw6877560268529008848:T:=t
theorem tw8627561154394265716:T:=t
theorem tw10455743928339290457:T:=t
theorem tw9557352009045844224:T:=t
theorem tw3583811862363856187:T:=t
theorem tw12518504611687188807:T:=t
theorem tw12431731261707249289:T:=t
theorem tw8478376212529829071:T:=t
theorem tw16135426469972691074:T:=t
theorem tw11544348965984651327:T:=t
theorem tw7590696779544312186:T:=t
theorem tw13348322127785295214:T:=t
theorem tw10363585996791799541:T:=t
theorem tw11501822485730972192:T:=t
theorem tw13972245371655741198:T:=t
theorem tw9681375758050803366:T:=t
theorem tw9406782406253462049:T:=t
theorem tw3466206800631347469:T:=t
theorem tw18238007617527299592:T:=t
theorem tw18302796317244248524:T:=t
theorem tw11120327062377616369:T:=t
theorem tw12543713266681445118:T:=t
theorem tw12885385263037960081:T:=t
theorem tw9417822746687237092:T:=t
theorem tw16102231251864390963:T:=t
theorem tw13110577991587790113:T:=t
theorem tw4500915450034043215:T:=t
theorem tw15822976107629697795:T:=t
theorem tw3562595001068472590:T:=t
theorem tw15928290008803537013:T:=t
theorem tw2496676261509829067:T:=t
theorem tw6635558491612396129:T:=t
theorem tw3027586509356016917:T:=t
theorem tw13402765919934010277:T:=t
theorem tw10234815189450012239:T:=t
theorem tw2724176850512262202:T:=t
theorem tw17477492558424962760:T:=t
theorem tw17128291446047057950:T:=t
theorem tw17679725944135375923:T:=t
theorem tw15270170921892066516:T:=t
theorem tw6519269512792494810:T:=t
theorem tw8475525182357872103:T:=t
theorem tw2702614204127132176:T:=t
theorem tw3905226178654972811:T:=t
theorem tw17510229520200029679:T:=t
theorem tw14907226015203709474:T:=t
theorem tw330327031418712150:T:=t
theorem tw1886080085820668685:T:=t
theorem tw104360540948158410:T:=t
theorem tw17403364634526059139:T:=t
theorem tw7293298908176781663:T:=t
theorem tw11554813239044494598:T:=t
theorem tw15734660467963936456:T:=t
theorem tw5102693214775723256:T:=t
theorem tw14635473669698735251:T:=t
theorem tw3960113756560652017:T:=t
theorem tw16689149305811164139:T:=t
theorem tw4749052000479324790:T:=t
theorem tw12590340796369385619:T:=t
theorem tw6702130215012162313:T:=t
theorem tw11982392923317675503:T:=t
theorem tw6565609875121592624:T:=t
theorem tw16923884221124529275:T:=t
theorem tw8652556701797213591:T:=t
theorem tw17223442867436993403:T:=t
theorem tw12455012482086183272:T:=t
theorem tw6655696309031964122:T:=t
theorem tw12839114828313443825:T:=t
theorem tw10149618387772673413:T:=t
theorem tw16519101796099990279:T:=t
theorem tw9656510801202774680:T:=t
theorem tw18325589031809861271:T:=t
theorem tw16950194794029067938:T:=t
theorem tw11409991511011244131:T:=t
theorem tw2544328076492683441:T:=t
theorem tw9756827057097773860:T:=t
theorem tw52199770228462824:T:=t
theorem tw73751810991705359:T:=t
theorem tw3648158268668610041:T:=t
theorem tw10999965473173681306:T:=t
theorem tw1054321117371714560:T:=t
theorem tw9976160756891316704:T:=t
theorem tw3314904115985164895:T:=t
theorem tw48596604365144762:T:=t
theorem tw1439166485080882:T:=t
theorem tw961187720498965250:T:=t
theorem tw4044139247061151142:T:=t
theorem tw952227130904198133:T:=t
theorem tw6862492499505807319:T:=t
theorem tw223528310411579522:T:=t
theorem tw13219505800766818778:T:=t
theorem tw17353955331779342651:T:=t
theorem tw3779293765908593550:T:=t
theorem tw14504180641510445567:T:=t
theorem tw11987853993630220354:T:=t
theorem tw15595112118272840620:T:=t
theorem tw9360745474812902239:T:=t
theorem tw7411558596216406370:T:=t
theorem tw6019089244302038806:T:=t
theorem tw10707853282979444102:T:=t
theorem tw2895952525429962455:T:=t
theorem tw7093617532817203218:T:=t
theorem tw11815829001073249272:T:=t
theorem tw12670839924663504800:T:=t
theorem tw2759098988195820126:T:=t
theorem tw16676564476587882173:T:=t
theorem tw6418098437765475518:T:=t
theorem tw4039676971129161736:T:=t
theorem tw11710404883906591787:T:=t
theorem tw15514936471743626214:T:=t
theorem tw10616033007858572203:T:=t
theorem tw33456957511925785:T:=t
theorem tw6237627108579964202:T:=t
theorem tw4261964983698606537:T:=t
theorem tw2566753976717531306:T:=t
theorem tw1236483940969888574:T:=t
theorem tw14909365282108701170:T:=t
theorem tw4839478117068044826:T:=t
theorem tw9730157408454304684:T:=t
theorem tw7439787175107056256:T:=t
theorem tw17052023290607921161:T:=t
theorem tw65644731488775911:T:=t
theorem tw11003572833241299968:T:=t
theorem tw3626430660855392483:T:=t
theorem tw12027323910402764344:T:=t
theorem tw4156125974679941130:T:=t
theorem tw16305672181175384284:T:=t
theorem tw6788530277367551627:T:=t
theorem tw12927740378394474205:T:=t
theorem tw11785714552879321826:T:=t
theorem tw18063282731904131703:T:=t
theorem tw16251939892948500945:T:=t
theorem tw16008252555379753968:T:=t
theorem tw13724616953566380437:T:=t
theorem tw10665089971535097683:T:=t
theorem tw12675357926760492328:T:=t
theorem tw4900431672193113347:T:=t
theorem tw7280218542721966645:T:=t
theorem tw3532412968194664532:T:=t
theorem tw13591255225166038476:T:=t
theorem tw6657087868060814:T:=t
theorem tw8467378866343419333:T:=t
theorem tw15079240505294077160:T:=t
theorem tw4189750870438640210:T:=t
theorem tw16952715711813285254:T:=t
theorem tw8952462522180670554:T:=t
theorem tw16049902774474827687:T:=t
theorem tw18284262389922463811:T:=t
theorem tw302440914744352476:T:=t
theorem tw10177057350305019805:T:=t
theorem tw17644181745481072423:T:=t
theorem tw18418235949754561950:T:=t
theorem tw6674386428176565332:T:=t
theorem tw8484041278411425421:T:=t
theorem tw15609775798590211731:T:=t
theorem tw2647654807098235363:T:=t
theorem tw17298425922696826006:T:=t
theorem tw3343439749351644125:T:=t
theorem tw6696893160125735727:T:=t
theorem tw9376575566392132001:T:=t
theorem tw2195194259037543316:T:=t
theorem tw10159738436595150677:T:=t
theorem tw12732289081945773324:T:=t
theorem tw16193401482309157537:T:=t
theorem tw2524017781993486291:T:=t
theorem tw10625486282989778954:T:=t
theorem tw13293747886898857621:T:=t
theorem tw6880717277089553138:T:=t
theorem tw13270728482189477470:T:=t
theorem tw9508770018378322450:T:=t
theorem tw5571399437266216444:T:=t
theorem tw15465920861327815835:T:=t
theorem tw12057704586751987240:T:=t
theorem tw10463206416058312583:T:=t
theorem tw15060185592220127646:T:=t
theorem tw17272174723667511238:T:=t
theorem tw15109750227778091905:T:=t
theorem tw4817600198373253283:T:=t
theorem tw7235775444256392728:T:=t
theorem tw1118068078248606362:T:=t
theorem tw11086099901593105684:T:=t
theorem tw17737603089517620647:T:=t
theorem tw10864377008497418100:T:=t
theorem tw9381277316556691805:T:=t
theorem tw9840939614602229412:T:=t
theorem tw387501639795913443:T:=t
theorem tw11181722664286889309:T:=t
theorem tw6788695710022549768:T:=t
theorem tw11403851563620829512:T:=t
theorem tw16959884160788844718:T:=t
theorem tw645136716886899192:T:=t
theorem tw2075378649607365068:T:=t
theorem tw18315214858253571532:T:=t
theorem tw11487549891475536569:T:=t
theorem tw6542085627976250192:T:=t
theorem tw6541472054586571296:T:=t
theorem tw1850612553970854742:T:=t
theorem tw13227692790652741651:T:=t
theorem tw4365514962571936147:T:=t
theorem tw4038153913678941442:T:=t
theorem tw5160751907100791332:T:=t
theorem tw10821422270917381399:T:=t
theorem tw12077450504624328385:T:=t
theorem tw2433702464844828792:T:=t
theorem tw10665469846841522134:T:=t
theorem tw16320729459185622934:T:=t
theorem tw4333880214566435006:T:=t
theorem tw1150287232629052791:T:=t
theorem tw15806524323241146399:T:=t
theorem tw14218914174604095658:T:=t
theorem tw6786416333201716852:T:=t
theorem tw5797031442667253490:T:=t
theorem tw1615045767204293396:T:=t
theorem tw3394367416137920725:T:=t
theorem tw6379557931619253226:T:=t
theorem tw15643365686152983790:T:=t
theorem tw1519927702969063271:T:=t
theorem tw7153082081811710619:T:=t
theorem tw2921958311620399285:T:=t
theorem tw10652863235454686790:T:=t
theorem tw3234112476842188716:T:=t
theorem tw2287757881348798766:T:=t
theorem tw11595355409239048105:T:=t
theorem tw2190695567426971638:T:=t
theorem tw18134284020713443437:T:=t
theorem tw18442785490491869365:T:=t
theorem tw1714950047550659301:T:=t
theorem tw7691172733374981047:T:=t
theorem tw4475767826048309731:T:=t
theorem tw12205347405646519318:T:=t
theorem tw8834365191522931223:T:=t
theorem tw14788915703135433725:T:=t
theorem tw10391951854915411234:T:=t
theorem tw6183352029847204284:T:=t
theorem tw3627144658338631552:T:=t
theorem tw8707812797481193996:T:=t
theorem tw17402982504261768225:T:=t
theorem tw1157997071576566072:T:=t
theorem tw14009396871252706886:T:=t
theorem tw14639212616227390028:T:=t
theorem tw6162249291895867263:T:=t
theorem tw2821470743931037460:T:=t
theorem tw14061640607465278742:T:=t
theorem tw6053611964639427726:T:=t
theorem tw17091655785135471103:T:=t
theorem tw7514964652732493775:T:=t
theorem tw6545385358150927430:T:=t
theorem tw2921621734765799159:T:=t
theorem tw3299218664060906527:T:=t
theorem tw16411370214107742406:T:=t
theorem tw8663697691656813868:T:=t
theorem tw6511744376749373798:T:=t
theorem tw17725498274588495791:T:=t
theorem tw15467891735981029475:T:=t
theorem tw9253799994812790149:T:=t
theorem tw2906824675625879941:T:=t
theorem tw832900586485598795:T:=t
theorem tw12915833801598196605:T:=t
theorem tw5665735395497279834:T:=t
theorem tw17699438841360665129:T:=t
theorem tw3994622017586750766:T:=t
theorem tw17118054049896295152:T:=t
theorem tw15131278010643852716:T:=t
theorem tw7173623326730630234:T:=t
theorem tw15984706205718930553:T:=t
theorem tw13642826006792871662:T:=t
theorem tw4681395471914393968:T:=t
theorem tw12900284412222446716:T:=t
theorem tw9808303207383738048:T:=t
theorem tw6596593509180878263:T:=t
theorem tw14161005256144132680:T:=t
theorem tw9682133043923132273:T:=t
theorem tw4990475226369331113:T:=t
theorem tw5781596087445459943:T:=t
theorem tw10663580350406149668:T:=t
theorem tw14662554035588321541:T:=t
theorem tw8323696390020096311:T:=t
theorem tw8228058824784995430:T:=t
theorem tw5649967823195072380:T:=t
theorem tw15485851114877660061:T:=t
theorem tw8211959896082780389:T:=t
theorem tw14097447854668400296:T:=t
theorem tw2238316416991798583:T:=t
theorem tw15554039934745177238:T:=t
theorem tw5203219222101121401:T:=t
theorem tw4126091431370883743:T:=t
theorem tw17767330081159143506:T:=t
theorem tw4458048076830672230:T:=t
theorem tw5396361742852586263:T:=t
theorem tw10535066850440430464:T:=t
theorem tw7009010813088502767:T:=t
end Mine.main
open PySem PySem.W PyProof.Rows
set_option Elab.async true in
set_option maxRecDepth 100000 in
set_option maxHeartbeats 8000000 in
theorem Mine.main : PySem.Challenge.rw_no0176_01.Holds := by
  w_on
  o_law
  k_head
  case hw => w_witness2
  k_go0
  rename Fr _ _ _ _ => F'
  rename Top _ _ _ _ _ _ => T'
  rename Heap.IsList _ _ _ => hL'
  rename IntsAre _ _ => hI'
  rename (_ : Shared).gens = #[] => hg'
  refine Mine.law_walk (k := 290) Mine.law_pure (by assumption) ?facts T' hL' hI' (by assumption) F' ?hm rfl rfl rfl rfl rfl ?e6 ?e7 ?hir ?gA ?post
  case facts => exact ⟨⟨by kernel_rfl, by kernel_rfl⟩, ⟨by kernel_rfl, by kernel_rfl⟩, ⟨by kernel_rfl, by kernel_rfl⟩, ⟨by kernel_rfl, by kernel_rfl⟩, ⟨by kernel_rfl, fun a b d e f => by kernel_rfl⟩, ⟨by kernel_rfl, fun a b d e f => by kernel_rfl⟩, ⟨by kernel_rfl, fun a b d e f => by kernel_rfl⟩, ⟨by kernel_rfl, fun a b d e f => by kernel_rfl⟩, fun a b S => by kernel_rfl, by kernel_rfl, by kernel_rfl, by kernel_rfl, by kernel_rfl, by kernel_rfl, by kernel_rfl⟩
  case hm => kernel_rfl
  case e6 => kernel_rfl
  case e7 => kernel_rfl
  case hir => kernel_rfl
  case gA => exact Mine.gA_ok _
  case post =>
    intro s' hk hgs hos
    refine ⟨.inl ⟨.bool true, .bool true, [], rfl, ?_, .bool true, ?_, ?_⟩, hk, hos, by rw [hgs]; exact hg'⟩
    · intro cls; first | rfl | kernel_rfl
    · first | rfl | kernel_rfl
    · exact fun _ => ⟨List.nodup_nil, fun a h => nomatch h⟩
theorem PySem.Challenge.cw_no0176_01_holds : PySem.Challenge.rw_no0176_01.Holds := by
  exact Mine.main
