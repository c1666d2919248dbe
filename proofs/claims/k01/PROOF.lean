import PyProof.Rows.All
import Wide.All
import OpenK.AllK
import Wide.FinOn
import HandS.ForMost
import HandS.IsInst
import HandS.Deep
import HandS.Defaults
import HandS.More
import HandS.Exc
import HandS.CallSlots
import HandS.Lambda
import HandS.Style
import HandS.TupAny
import HandS.Conv
import HandS.Zip
import HandS.Wide
import HandS.ExcOwn
import HandS.WordsExc
import HandS.StrMore
import HandS.HeadHook3
import HandS.RaiseMore
import HandS.FStr
import KE.GoesMore
import PyProof.TupleOfStr
import HandS.ClsMeth
import HandS.Star
import HandS.DictComp
import KE.SortData
import KE.KTupSum
import PyProof.ListStr
import HandS.Head0
import HandS.Head1
import HandS.Head2
import HandS.HeadEnd
import HandS.HeadHook1
import HandS.HeadHook2
import HandS.HeadHook4
import HandS.Base
import HandS.Call
import HandS.ExcInit
import HandS.ExcSuper
import HandS.Nested
import HandS.NestedK
import KE.KExcSuper
import KE.KSuper
import KE.KTryMore
import HandS.ExcValue
import HandS.ExcField
import HandS.HotCalls
import KE.KExcInit
import HandS.HeadWalk
import HandS.CallRecv
import PyProof.ExcBaseAll.ValueError
import PyProof.ExcBaseAll.LookupError
import PyProof.ExcBaseAll.IndexError
import HandS.Iter
import OpenK.KMeth
import HandS.SlotsOwn
import PyProof.ReprRoads
import PyProof.StrOps2
import PyProof.Rows.StrInSeq3
import HandS.HeadNt
import HandS.ExcIs
import HandS.Evl
import HandS.EndTab
import HandS.TupMul
import HandS.Codes
import PySem.Challenge.RW_tiedmoments_k01_errors_by_themselves
set_option Elab.async false
set_option linter.all false
set_option maxRecDepth 100000
set_option maxHeartbeats 0
namespace TM
open PySem PySem.Spec PyProof.Rows L2
/-- what is told of a state: the data that stand, the bag's place -/
structure Kp where
  h : Addr → Option HO
  b : Option Addr
inductive Fr (α : Type) : Type where
  | ret (a : α) : Fr α
  | bad : Fr α
  | exc (x : PyData) : Fr α
  | draw (n : Int) (k : Int → Fr α) : Fr α
  | any (k : Nat → Fr α) : Fr α
  | anyH (k : Kp → Fr α) : Fr α
def Fr.bind {α β : Type} : Fr α → (α → Fr β) → Fr β
  | .ret a, f => f a
  | .bad, _ => .bad
  | .exc x, _ => .exc x
  | .draw n k, f => .draw n fun i => (k i).bind f
  | .any k, f => .any fun i => (k i).bind f
  | .anyH k, f => .anyH fun i => (k i).bind f
def Fr.wpx {α : Type} : Fr α → (PyData → Prop) → (α → Prop) → Prop
  | .ret a, _, Q => Q a
  | .bad, _, _ => False
  | .exc x, E, _ => E x
  | .draw n k, E, Q => 0 < n ∧ ∀ i, 0 ≤ i → i < n → (k i).wpx E Q
  | .any k, E, Q => ∀ i, (k i).wpx E Q
  | .anyH k, E, Q => ∀ i, (k i).wpx E Q
def Fr.wp {α : Type} (x : Fr α) (Q : α → Prop) : Prop := x.wpx (fun _ => False) Q
theorem Fr.wpx_bind {α β : Type} {f : α → Fr β} {E : PyData → Prop} {Q : β → Prop} : ∀ {x : Fr α}, (x.bind f).wpx E Q ↔ x.wpx E fun a => (f a).wpx E Q
  | .ret a => Iff.rfl
  | .bad => Iff.rfl
  | .exc x => Iff.rfl
  | .draw n k => by
    show (0 < n ∧ ∀ i, 0 ≤ i → i < n → ((k i).bind f).wpx E Q) ↔ (0 < n ∧ ∀ i, 0 ≤ i → i < n → (k i).wpx E fun a => (f a).wpx E Q)
    constructor
    · intro ⟨h, g⟩
      exact ⟨h, fun i a b => (Fr.wpx_bind (x := k i)).mp (g i a b)⟩
    · intro ⟨h, g⟩
      exact ⟨h, fun i a b => (Fr.wpx_bind (x := k i)).mpr (g i a b)⟩
  | .any k => ⟨fun h i => (Fr.wpx_bind (x := k i)).mp (h i), fun h i => (Fr.wpx_bind (x := k i)).mpr (h i)⟩
  | .anyH k => ⟨fun h i => (Fr.wpx_bind (x := k i)).mp (h i), fun h i => (Fr.wpx_bind (x := k i)).mpr (h i)⟩
theorem Fr.wp_bind {α β : Type} {f : α → Fr β} {Q : β → Prop} {x : Fr α} : (x.bind f).wp Q ↔ x.wp fun a => (f a).wp Q := Fr.wpx_bind
theorem Fr.wpx_mono {α : Type} {E E' : PyData → Prop} {Q Q' : α → Prop} (he : ∀ x, E x → E' x) (h : ∀ a, Q a → Q' a) : ∀ {x : Fr α}, x.wpx E Q → x.wpx E' Q'
  | .ret a, q => h a q
  | .bad, q => q
  | .exc x, q => he x q
  | .draw n k, ⟨p, g⟩ => ⟨p, fun i a b => Fr.wpx_mono he h (x := k i) (g i a b)⟩
  | .any k, g => fun i => Fr.wpx_mono he h (x := k i) (g i)
  | .anyH k, g => fun i => Fr.wpx_mono he h (x := k i) (g i)
theorem Fr.wp_mono {α : Type} {Q Q' : α → Prop} (h : ∀ a, Q a → Q' a) {x : Fr α} : x.wp Q → x.wp Q' := Fr.wpx_mono (fun _ z => z) h
theorem Fr.wp_x {α : Type} {E : PyData → Prop} {Q : α → Prop} {x : Fr α} (h : x.wp Q) : x.wpx E Q := Fr.wpx_mono (fun _ z => z.elim) (fun _ z => z) h
/-- no error leaves -/
def Fr.noX {α : Type} : Fr α → Fr α
  | .ret a => .ret a
  | .bad => .bad
  | .exc _ => .bad
  | .draw n k => .draw n fun i => (k i).noX
  | .any k => .any fun i => (k i).noX
  | .anyH k => .anyH fun i => (k i).noX
theorem Fr.wp_noX {α : Type} {E : PyData → Prop} {Q : α → Prop} : ∀ {x : Fr α}, x.noX.wpx E Q → x.wp Q
  | .ret a, h => h
  | .bad, h => h
  | .exc _, h => h
  | .draw n k, ⟨p, g⟩ => ⟨p, fun i a b => Fr.wp_noX (x := k i) (g i a b)⟩
  | .any k, g => fun i => Fr.wp_noX (x := k i) (g i)
  | .anyH k, g => fun i => Fr.wp_noX (x := k i) (g i)
def ofO {α : Type} : Option α → Fr α
  | some a => .ret a
  | none => .bad
theorem wp_ofO {α : Type} {o : Option α} {E : PyData → Prop} {Q : α → Prop} (h : (ofO o).wpx E Q) : ∃ a, o = some a ∧ Q a := by
  cases o with
  | none => exact h.elim
  | some a => exact ⟨a, rfl, h⟩
/-- how a list of the def's own is built: d data, l a list of .., p a pair of data and .., i an instance, k a dict, t a dict with tuple keys -/
inductive Sh where
  | d | l (s : Sh) | p (s : Sh) | i | k | t
  deriving DecidableEq
inductive Sl where
  | d (x : PyData)
  | own (s : Sh) (x : PyData)
  | bag
  /-- data, with what is known to stand in the heap -/
  | kp (x : PyData) (Γ : Kp)
  /-- a table of code objects is known -/
  | tb (P : Addr) (q : Str)
abbrev Rn := List (Option Sl)
/-- the bag's place; hidden places (kept as they are, never read as data); each slot's own things -/
structure Bs where
  bag : Option Addr
  cel : Addr
  hid : Addr → Prop
  own : Nat → List Addr
  /-- tables of code objects: they grow -/
  tab : Addr → Option Str
/-- what may change -/
def Bs.isT (B : Bs) (a : Addr) : Prop := ∃ q, B.tab a = some q
def Bs.mv (B : Bs) (a : Addr) : Prop := B.bag = some a ∨ B.isT a
/-- the written part and the module's names -/
structure Wd where
  K : PySem.W.Frag
  mg : Str → Option Value
abbrev _root_.L2.Cx.wd (X : Cx) : Wd := ⟨X.K, X.mg⟩
def kD : Key → PyData
  | .inl i => .int i
  | .inr x => .str x
/-- at e: an error of the class at C, its dict at d -/
def eob (e C d : Addr) : HO := .ext fun h => ∃ (o : Obj) (vs : Array Value), h.get? e = some o ∧ o.cls = .ref C ∧ o.dict = some d ∧ o.data = .fields vs
def ekids : Expr → List Expr
  | .BoolOp _ vs _ => vs
  | .BinOp l _ r _ => [l, r]
  | .UnaryOp _ e _ => [e]
  | .IfExp a b c _ => [a, b, c]
  | .Dict _ vs _ => vs
  | .ListComp e _ _ _ => [e]
  | .Compare l _ cs _ => l :: cs
  | .Call f as ks _ => f :: (as ++ ks.map (·.value))
  | .Attribute v _ _ => [v]
  | .Subscript v s _ => [v, s]
  | .Starred v _ => [v]
  | .List es _ => es
  | .Tuple es _ _ => es
  | _ => []
def sexps : Stmt → List Expr
  | .Return (some e) _ => [e]
  | .Assign _ v _ => [v]
  | .AugAssign _ _ v _ => [v]
  | .For _ it _ _ _ => [it]
  | .While t _ _ _ => [t]
  | .If t _ _ _ => [t]
  | .Expr v _ => [v]
  | _ => []
def skids : Stmt → List Stmt
  | .For _ _ b o _ => b ++ o
  | .While _ b o _ => b ++ o
  | .If _ b o _ => b ++ o
  | .Try b _ _ _ _ => b
  | _ => []
def eAt : List Nat → Expr → Option Expr
  | [], e => some e
  | i :: p, e => (ekids e)[i]?.bind (eAt p)
def sAt : List Nat → List Stmt → Option Expr
  | i :: 0 :: j :: p, ss => ss[i]?.bind fun s => (sexps s)[j]?.bind (eAt p)
  | i :: 1 :: p, ss => ss[i]?.bind fun s => sAt p (skids s)
  | _, _ => none
/-- the lambda at a path in the def at a -/
def lamAt (K : PySem.W.Frag) (a : Addr) (p : List Nat) : Option (Arguments × Expr × Scope) :=
  match K.lookup a with
  | some ⟨_, _, .func fd, _⟩ => (match fd.body with
    | .stmts ss => (match sAt p ss with | some (.Lambda ps b sc _) => some (ps, b, sc) | _ => none)
    | _ => none)
  | _ => none
abbrev lamF (dV : Value) (q : Str) (params : Arguments) (body : Expr) (scope : Scope) (cl : List (Str × Addr)) (pm cdv ct : Value) : FuncData := { PySem.W.kla_fn "<lambda>" q params body scope cl pm cdv ct with defaults := dV }
abbrev lamObj (dV : Value) (q : Str) (params : Arguments) (body : Expr) (scope : Scope) (cl : List (Str × Addr)) (pm : Value) (c' : Addr) (ctv : Value) : Obj := { cls := .type "function", data := .func (lamF dV q params body scope cl pm (.ref c') ctv) }
/-- at f: that lambda, made; its code object at c' -/
def lamO (f : Addr) (dV : Value) (q : Str) (params : Arguments) (body : Expr) (scope : Scope) (cl : List (Str × Addr)) (c' : Addr) : HO := .ext fun h => ∃ pm ctv, h.get? f = some (lamObj dV q params body scope cl pm c' ctv)
def dvV : Option Addr → Value
  | none => .none
  | some t => .ref t
/-- how a lambda is written as data: where it lies in the text, then the rest -/
def fnT (p : List Nat) (r : PyData) : PyData := .dict [(.bool false, .tuple [.list (p.map fun n => .int (Int.ofNat n)), r])]
def lamR (a f c' : Addr) (q : Str) (cl : List (Str × Addr)) (t : Option Addr) : PyData := .tuple [.int (Int.ofNat a), .int (Int.ofNat f), .int (Int.ofNat c'), .str q, .list (cl.map fun y => .tuple [.str y.1, .int (Int.ofNat y.2)]), match t with | none => .none | some t => .int (Int.ofNat t)]
/-- a dict with tuple keys, as it is read: unlocked, or locked and not empty -/
def RdT (H : Hp) (a : Addr) (kvs : List (List Key × V)) : Prop := H a = some (.dT kvs) ∨ (kvs ≠ [] ∧ ∃ o, H a = some (.frz o (.dT kvs)))
theorem RdT.up {H H' : Hp} {a : Addr} {kvs : List (List Key × V)} (h : RdT H a kvs) (e : ∀ a o, H a = some o → H' a = some o) : RdT H' a kvs := h.imp (e _ _) fun z => ⟨z.1, z.2.imp fun _ q => e _ _ q⟩
mutual
inductive Dq (W : Wd) (H : Hp) : V → PyData → Prop
  | non : Dq W H .non .none
  | bl (b : Bool) : Dq W H (.bl b) (.bool b)
  | int (i : Int) : Dq W H (.int i) (.int i)
  | str (x : Str) : Dq W H (.str x) (.str x)
  | lst {a : Addr} {xs : List V} {ds : List PyData} : H a = some (.lst xs) → DqAll W H xs ds → Dq W H (.ref a) (.list ds)
  | tup {a : Addr} {xs : List V} {ds : List PyData} : H a = some (.tup xs) → DqAll W H xs ds → Dq W H (.ref a) (.tuple ds)
  | dK {a : Addr} {kvs : List (Key × V)} {ps : List (PyData × PyData)} : Rd H a (.dK kvs) → DqK W H kvs ps → Dq W H (.ref a) (.dict ps)
  | dT {a : Addr} {kvs : List (List Key × V)} {ps : List (PyData × PyData)} : RdT H a kvs → DqT W H kvs ps → Dq W H (.ref a) (.dict ps)
  | ins {a C dx : Addr} {c : Str} {fs : List (Str × V)} {ps : List (PyData × PyData)} : H a = some (.ins C dx fs) → W.mg c = some (.ref C) → DqF W H fs ps → Dq W H (.ref a) (.dict ((.none, .str c) :: ps))
  | me {a C dx : Addr} {c : Str} {fs : List (Str × V)} {ps : List (PyData × PyData)} : H a = some (.ins C dx fs) → W.mg c = some (.ref C) → DqF W H fs ps → Dq W H (.ref a) (.dict ((.list [.int (Int.ofNat a)], .str c) :: ps))
  | fn {a f c' : Addr} {p : List Nat} {q : Str} {cl : List (Str × Addr)} {t : Option Addr} {params : Arguments} {body : Expr} {scope : Scope} : lamAt W.K a p = some (params, body, scope) → H f = some (lamO f (dvV t) q params body scope cl c') → H c' = some (LamX.CodeO c' q) →
    (∀ d, t = some d → H d = some (.tup [.int 0])) → Dq W H (.ref f) (fnT p (lamR a f c' q cl t))
  | err {a C d : Addr} {c : Str} {fs : List (Str × V)} {ps : List (PyData × PyData)} : H a = some (eob a C d) → H d = some (.xd fs) → W.mg c = some (.ref C) → DqF W H fs ps → Dq W H (.ref a) (.dict ((.bool true, .str c) :: ps))
  | cls {C : Addr} {c : Str} : W.mg c = some (.ref C) → Dq W H (.ref C) (.dict [(.bool false, .str c)])
inductive DqAll (W : Wd) (H : Hp) : List V → List PyData → Prop
  | nil : DqAll W H [] []
  | cons {v : V} {vs : List V} {d : PyData} {ds : List PyData} : Dq W H v d → DqAll W H vs ds → DqAll W H (v :: vs) (d :: ds)
inductive DqK (W : Wd) (H : Hp) : List (Key × V) → List (PyData × PyData) → Prop
  | nil : DqK W H [] []
  | cons {k : Key} {v : V} {d : PyData} {kvs : List (Key × V)} {ps : List (PyData × PyData)} : Dq W H v d → DqK W H kvs ps → DqK W H ((k, v) :: kvs) ((kD k, d) :: ps)
inductive DqT (W : Wd) (H : Hp) : List (List Key × V) → List (PyData × PyData) → Prop
  | nil : DqT W H [] []
  | cons {k : List Key} {v : V} {d : PyData} {kvs : List (List Key × V)} {ps : List (PyData × PyData)} : Dq W H v d → DqT W H kvs ps → DqT W H ((k, v) :: kvs) ((.tuple (k.map kD), d) :: ps)
inductive DqF (W : Wd) (H : Hp) : List (Str × V) → List (PyData × PyData) → Prop
  | nil : DqF W H [] []
  | cons {f : Str} {v : V} {d : PyData} {fs : List (Str × V)} {ps : List (PyData × PyData)} : Dq W H v d → DqF W H fs ps → DqF W H ((f, v) :: fs) ((.str f, d) :: ps)
end
/-- the bag at b -/
def Bg (c : Addr) (H : Hp) (b : Addr) : Prop := ∃ (cs : List Int) (i r m n : Int), H b = some (.lst [.ref c, .int i, .int r, .int m, .int n]) ∧ H c = some (.lst (cs.map V.int)) ∧
  0 ≤ i ∧ 0 ≤ r ∧ 0 ≤ m ∧ m < 2147483549
/-- things that are never hidden or owned: code objects and tuples -/
def Hard (c : Addr) (o : HO) : Prop := (∃ q, o = LamX.CodeO c q) ∨ ∃ xs, o = .tup xs
abbrev HardO (c : Addr) := {o : HO // Hard c o}
abbrev hcod (c : Addr) (q : Str) : HardO c := ⟨LamX.CodeO c q, .inl ⟨q, rfl⟩⟩
structure Bok (B : Bs) (H : Hp) : Prop where
  bag : ∀ b, B.bag = some b → Bg B.cel H b
  nown : ∀ b, B.bag = some b → ∀ i, b ∉ B.own i ∧ B.cel ∉ B.own i
  hid : ∀ a, B.hid a → H a ≠ none
  own : ∀ i, ∀ a ∈ B.own i, H a ≠ none
  nd : ∀ i, (B.own i).Nodup
  apart : ∀ i j a, i ≠ j → a ∈ B.own i → a ∉ B.own j
  nh : ∀ i a, a ∈ B.own i → ¬ B.hid a
  tab : ∀ a q, B.tab a = some q → LamX.TabS H a q
  ntab : ∀ a, B.isT a → (∀ i, a ∉ B.own i) ∧ ¬ B.hid a
  cod : ∀ c (q : HardO c), H c = some q.1 → (∀ i, c ∉ B.own i) ∧ ¬ B.hid c
/-- the places that are no data -/
def Bs.off (B : Bs) (a : Addr) : Prop := B.mv a ∨ B.hid a ∨ ∃ i, a ∈ B.own i
open Classical in
noncomputable def offs (B : Bs) (H : Hp) : Hp := fun a => if B.off a then none else H a
mutual
inductive Ow (W : Wd) (Hd H : Hp) : Sh → V → PyData → List Addr → Prop
  | d {v : V} {x : PyData} : Dq W Hd v x → Ow W Hd H .d v x []
  | l {s : Sh} {a : Addr} {vs : List V} {xs : List PyData} {fp : List Addr} : H a = some (.lst vs) → OwAll W Hd H s vs xs fp → Ow W Hd H (.l s) (.ref a) (.list xs) (a :: fp)
  | p {s : Sh} {a : Addr} {v u : V} {x y : PyData} {fp : List Addr} : Hd a = some (.tup [v, u]) → Dq W Hd v x → Ow W Hd H s u y fp → Ow W Hd H (.p s) (.ref a) (.tuple [x, y]) fp
  | i {a C dx : Addr} {c : Str} {fs : List (Str × V)} {ps : List (PyData × PyData)} : H a = some (.ins C dx fs) → W.mg c = some (.ref C) → DqF W Hd fs ps → Ow W Hd H .i (.ref a) (.dict ((.list [.int (Int.ofNat a)], .str c) :: ps)) [a]
  | k {a : Addr} {kvs : List (Key × V)} {ps : List (PyData × PyData)} : H a = some (.dK kvs) → DqK W Hd kvs ps → Ow W Hd H .k (.ref a) (.dict ps) [a]
  | t {a : Addr} {kvs : List (List Key × V)} {ps : List (PyData × PyData)} : H a = some (.dT kvs) → DqT W Hd kvs ps → Ow W Hd H .t (.ref a) (.dict ps) [a]
inductive OwAll (W : Wd) (Hd H : Hp) : Sh → List V → List PyData → List Addr → Prop
  | nil {s : Sh} : OwAll W Hd H s [] [] []
  | cons {s : Sh} {v : V} {vs : List V} {x : PyData} {xs : List PyData} {f1 f2 : List Addr} : Ow W Hd H s v x f1 → OwAll W Hd H s vs xs f2 → OwAll W Hd H s (v :: vs) (x :: xs) (f1 ++ f2)
end
def FnAt (B : Bs) (H : Hp) (Γ : Kp) : Prop := (∀ a o, Γ.h a = some o → offs B H a = some o) ∧ B.bag = Γ.b
section
variable (W : Wd)
def RdS (B : Bs) (H : Hp) (v : V) : Sl → Prop
  | .d x => Dq W (offs B H) v x
  | .own s x => ∃ fp, Ow W (offs B H) H s v x fp ∧ ∀ a ∈ fp, ∃ i, a ∈ B.own i
  | .bag => ∃ b, v = .ref b ∧ B.bag = some b
  | .kp x Γ => Dq W (offs B H) v x ∧ FnAt B H Γ
  | .tb P q => (∃ a, v = .ref a) ∧ B.tab P = some q
abbrev RdSs (B : Bs) (H : Hp) (vs : List V) (ss : List Sl) : Prop := Paired (RdS W B H) vs ss
structure Ext (B : Bs) (H H' : Hp) : Prop where
  same : ∀ a o, ¬ B.mv a → H a = some o → H' a = some o
  ok : Bok B H'
structure ExS (B : Bs) (H : Hp) (B' : Bs) (H' : Hp) : Prop where
  bag : B'.bag = B.bag
  cel : B'.cel = B.cel
  tab : B'.tab = B.tab
  sub : ∀ a, B.mv a ∨ B.hid a → B'.mv a ∨ B'.hid a
  new : ∀ a, B'.off a → B.off a ∨ H a = none
  newo : ∀ i a, a ∈ B'.own i → (∃ j, a ∈ B.own j) ∨ H a = none
  same : ∀ a o, ¬ B.mv a → (∀ i, a ∉ B.own i) → H a = some o → H' a = some o
  ok : Bok B' H'
/-- slot i's reading -/
def RdI (B : Bs) (H : Hp) (i : Nat) (v : V) : Sl → Prop
  | .own s x => Ow W (offs B H) H s v x (B.own i)
  | s => RdS W B H v s
structure Rho (B : Bs) (H : Hp) (σ : L2.St) (ρ : Rn) : Prop where
  ok : Bok B H
  len : ρ.length = σ.length
  get : ∀ (i : Nat) (s : Sl), ρ[i]? = some (some s) → ∃ v, σ[i]? = some (some v) ∧ RdI W B H i v s
/-- an error in the air -/
def RdX (B : Bs) (H : Hp) (cls : Value) (d : Option Addr) : PyData → Prop
  | .dict ((.bool true, .str c) :: ps) => ∃ C dx fs, cls = .ref C ∧ W.mg c = some (.ref C) ∧ d = some dx ∧ H dx = some (.xd fs) ∧ ¬ B.off dx ∧ DqF W (offs B H) fs ps
  | _ => False
end
end TM
namespace TM
open PySem PySem.Spec PyProof.Rows L2
section
variable {W : Wd} {H H' Hd Hd' : Hp}
theorem rd_mono {u : HO} {a : Addr} (e : ∀ a o, H a = some o → H' a = some o) (h : Rd H a u) : Rd H' a u := h.imp (fun h => e _ _ h) fun ⟨o, h⟩ => ⟨o, e _ _ h⟩
theorem seqT_mono {K : PySem.W.Frag} (e : ∀ a o, H a = some o → H' a = some o) {a : Addr} {xs : List V} (h : SqT K H a xs) : SqT K H' a xs := by
  rcases h with (h | ⟨o, h⟩) | h
  · exact .inl (.inl (e _ _ h))
  · exact .inl (.inr ⟨o, e _ _ h⟩)
  · exact .inr h
mutual
theorem Dq_mono (e : ∀ a o, H a = some o → H' a = some o) : ∀ {v : V} {d : PyData}, Dq W H v d → Dq W H' v d
  | _, _, .non => .non
  | _, _, .bl b => .bl b
  | _, _, .int i => .int i
  | _, _, .str x => .str x
  | _, _, .lst h t => .lst (e _ _ h) (DqAll_mono e t)
  | _, _, .tup h t => .tup (e _ _ h) (DqAll_mono e t)
  | _, _, .dK h t => .dK (rd_mono e h) (DqK_mono e t)
  | _, _, .dT h t => .dT (h.up e) (DqT_mono e t)
  | _, _, .ins h m t => .ins (e _ _ h) m (DqF_mono e t)
  | _, _, .me h m t => .me (e _ _ h) m (DqF_mono e t)
  | _, _, .fn l h k m => .fn l (e _ _ h) (e _ _ k) fun d z => e _ _ (m d z)
  | _, _, .err h k m t => .err (e _ _ h) (e _ _ k) m (DqF_mono e t)
  | _, _, .cls m => .cls m
theorem DqAll_mono (e : ∀ a o, H a = some o → H' a = some o) : ∀ {vs : List V} {ds : List PyData}, DqAll W H vs ds → DqAll W H' vs ds
  | _, _, .nil => .nil
  | _, _, .cons h t => .cons (Dq_mono e h) (DqAll_mono e t)
theorem DqK_mono (e : ∀ a o, H a = some o → H' a = some o) : ∀ {vs : List (Key × V)} {ds : List (PyData × PyData)}, DqK W H vs ds → DqK W H' vs ds
  | _, _, .nil => .nil
  | _, _, .cons h t => .cons (Dq_mono e h) (DqK_mono e t)
theorem DqT_mono (e : ∀ a o, H a = some o → H' a = some o) : ∀ {vs : List (List Key × V)} {ds : List (PyData × PyData)}, DqT W H vs ds → DqT W H' vs ds
  | _, _, .nil => .nil
  | _, _, .cons h t => .cons (Dq_mono e h) (DqT_mono e t)
theorem DqF_mono (e : ∀ a o, H a = some o → H' a = some o) : ∀ {vs : List (Str × V)} {ds : List (PyData × PyData)}, DqF W H vs ds → DqF W H' vs ds
  | _, _, .nil => .nil
  | _, _, .cons h t => .cons (Dq_mono e h) (DqF_mono e t)
end
/-- plain data: no dict, no instance -/
def pln : PyData → Bool
  | .dict _ => false
  | .list xs => plnL xs
  | .tuple xs => plnL xs
  | _ => true
where plnL : List PyData → Bool
  | [] => true
  | x :: xs => pln x && plnL xs
mutual
theorem Dq.dp : ∀ {v : V} {d : PyData}, Dq W H v d → pln d = true → Dp W.K H v d
  | _, _, .non, _ => .non
  | _, _, .bl b, _ => .bl b
  | _, _, .int i, _ => .int i
  | _, _, .str x, _ => .str x
  | _, _, .lst h t, p => .lst (SqL.of h) (DqAll.dp t (by rw [pln] at p; exact p))
  | _, _, .tup h t, p => .tup (SqT.of h) (DqAll.dp t (by rw [pln] at p; exact p))
  | _, _, .dK _ _, p => by rw [pln] at p; cases p
  | _, _, .dT _ _, p => by rw [pln] at p; cases p
  | _, _, .ins _ _ _, p => by rw [pln] at p; cases p
  | _, _, .me _ _ _, p => by rw [pln] at p; cases p
  | _, _, .fn _ _ _ _, p => by unfold fnT at p; rw [pln] at p; cases p
  | _, _, .err _ _ _ _, p => by rw [pln] at p; cases p
  | _, _, .cls _, p => by rw [pln] at p; cases p
theorem DqAll.dp : ∀ {vs : List V} {ds : List PyData}, DqAll W H vs ds → pln.plnL ds = true → DpAll W.K H vs ds
  | _, _, .nil, _ => .nil
  | _, _, .cons h t, p => by
    rw [pln.plnL, Bool.and_eq_true] at p
    exact .cons (Dq.dp h p.1) (DqAll.dp t p.2)
end
theorem DqAll_len : ∀ {vs : List V} {ds : List PyData}, DqAll W H vs ds → vs.length = ds.length
  | _, _, .nil => rfl
  | _, _, .cons _ t => congrArg Nat.succ (DqAll_len t)
theorem DqAll_get : ∀ {vs : List V} {ds : List PyData} {i : Nat} {d : PyData}, DqAll W H vs ds → ds[i]? = some d → ∃ v, vs[i]? = some v ∧ Dq W H v d
  | _, _, _, _, .nil, e => by simp at e
  | _, _, 0, d, .cons h _, e => by
    have q : _ = d := Option.some.inj e
    subst q
    exact ⟨_, rfl, h⟩
  | _, _, i + 1, d, .cons _ t, e => by
    obtain ⟨v, h1, h2⟩ := DqAll_get (i := i) (d := d) t (by simpa using e)
    exact ⟨v, by simpa using h1, h2⟩
theorem DqAll_app : ∀ {vs ws : List V} {ds es : List PyData}, DqAll W H vs ds → DqAll W H ws es → DqAll W H (vs ++ ws) (ds ++ es)
  | _, _, _, _, .nil, s => s
  | _, _, _, _, .cons r t, s => .cons r (DqAll_app t s)
mutual
theorem Ow_mono (e : ∀ a o, Hd a = some o → Hd' a = some o) : ∀ {s : Sh} {v : V} {x : PyData} {fp : List Addr}, (∀ a ∈ fp, ∀ o, H a = some o → H' a = some o) → Ow W Hd H s v x fp → Ow W Hd' H' s v x fp
  | _, _, _, _, _, .d h => .d (Dq_mono e h)
  | _, _, _, _, k, .l h t => .l (k _ List.mem_cons_self _ h) (OwAll_mono e (fun a ha => k a (List.mem_cons_of_mem _ ha)) t)
  | _, _, _, _, k, .p h r t => .p (e _ _ h) (Dq_mono e r) (Ow_mono e k t)
  | _, _, _, _, k, .i h m t => .i (k _ List.mem_cons_self _ h) m (DqF_mono e t)
  | _, _, _, _, k, .k h t => .k (k _ List.mem_cons_self _ h) (DqK_mono e t)
  | _, _, _, _, k, .t h t => .t (k _ List.mem_cons_self _ h) (DqT_mono e t)
theorem OwAll_mono (e : ∀ a o, Hd a = some o → Hd' a = some o) : ∀ {s : Sh} {vs : List V} {xs : List PyData} {fp : List Addr}, (∀ a ∈ fp, ∀ o, H a = some o → H' a = some o) → OwAll W Hd H s vs xs fp → OwAll W Hd' H' s vs xs fp
  | _, _, _, _, _, .nil => .nil
  | _, _, _, _, k, .cons h t => .cons (Ow_mono e (fun a ha => k a (List.mem_append_left _ ha)) h) (OwAll_mono e (fun a ha => k a (List.mem_append_right _ ha)) t)
end
mutual
/-- an own thing, read as data of the whole heap -/
theorem Ow.dq (e : ∀ a o, Hd a = some o → H a = some o) : ∀ {s : Sh} {v : V} {x : PyData} {fp : List Addr}, Ow W Hd H s v x fp → Dq W H v x
  | _, _, _, _, .d h => Dq_mono e h
  | _, _, _, _, .l h t => .lst h (OwAll.dq e t)
  | _, _, _, _, .p h r t => .tup (e _ _ h) (.cons (Dq_mono e r) (.cons (Ow.dq e t) .nil))
  | _, _, _, _, .i h m t => .me h m (DqF_mono e t)
  | _, _, _, _, .k h t => .dK (.inl h) (DqK_mono e t)
  | _, _, _, _, .t h t => .dT (.inl h) (DqT_mono e t)
theorem OwAll.dq (e : ∀ a o, Hd a = some o → H a = some o) : ∀ {s : Sh} {vs : List V} {xs : List PyData} {fp : List Addr}, OwAll W Hd H s vs xs fp → DqAll W H vs xs
  | _, _, _, _, .nil => .nil
  | _, _, _, _, .cons h t => .cons (Ow.dq e h) (OwAll.dq e t)
end
theorem OwAll.data : ∀ {vs : List V} {xs : List PyData} {fp : List Addr}, OwAll W Hd H .d vs xs fp → DqAll W Hd vs xs ∧ fp = []
  | _, _, _, .nil => ⟨.nil, rfl⟩
  | _, _, _, .cons (.d h) t => ⟨.cons h (OwAll.data t).1, by rw [(OwAll.data t).2]; rfl⟩
theorem OwAll.len : ∀ {s : Sh} {vs : List V} {xs : List PyData} {fp : List Addr}, OwAll W Hd H s vs xs fp → vs.length = xs.length
  | _, _, _, _, .nil => rfl
  | _, _, _, _, .cons _ t => congrArg Nat.succ (OwAll.len t)
theorem OwAll.app : ∀ {s : Sh} {vs ws : List V} {xs ys : List PyData} {f1 f2 : List Addr}, OwAll W Hd H s vs xs f1 → OwAll W Hd H s ws ys f2 → OwAll W Hd H s (vs ++ ws) (xs ++ ys) (f1 ++ f2)
  | _, _, _, _, _, _, _, .nil, t => t
  | _, _, _, _, _, _, _, .cons h r, t => by rw [List.append_assoc]; exact .cons h (OwAll.app r t)
variable {B B' : Bs} {v : V} {s : Sl} {σ : L2.St} {ρ : Rn}
theorem offs_some {a : Addr} {o : HO} (h : offs B H a = some o) : H a = some o ∧ ¬ B.off a := by
  unfold offs at h
  split at h
  · cases h
  · exact ⟨h, ‹_›⟩
theorem offs_sub {a : Addr} {o : HO} (h : offs B H a = some o) : H a = some o := (offs_some h).1
theorem offs_at {a : Addr} {o : HO} (h : H a = some o) (h1 : ¬ B.off a) : offs B H a = some o := by
  unfold offs
  rw [if_neg h1]
  exact h
theorem off_bag {a : Addr} (h : ¬ B.off a) : ¬ B.mv a := fun z => h (.inl z)
theorem off_own {a : Addr} (h : ¬ B.off a) : ∀ i, a ∉ B.own i := fun i z => h (.inr (.inr ⟨i, z⟩))
theorem Ext.offs (e : Ext B H H') : ∀ a o, offs B H a = some o → offs B H' a = some o := fun a o h => by
  obtain ⟨h0, h1⟩ := offs_some h
  exact offs_at (e.same a o (off_bag h1) h0) h1
theorem ExS.offs (e : ExS B H B' H') : ∀ a o, TM.offs B H a = some o → TM.offs B' H' a = some o := fun a o h => by
  obtain ⟨h0, h1⟩ := offs_some h
  refine offs_at (e.same a o (off_bag h1) (off_own h1) h0) fun z => ?_
  rcases e.new a z with z | z
  · exact h1 z
  · rw [h0] at z
    cases z
theorem _root_.LamX.TabS.up {P : Addr} {q : Str} (t : LamX.TabS H P q) (hP : ∀ ps, H P = some (.tbl ps) → H' P = some (.tbl ps)) (hc : ∀ c, H c = some (LamX.CodeO c q) → H' c = some (LamX.CodeO c q)) : LamX.TabS H' P q := by
  obtain ⟨ps, h1, h2, h3⟩ := t
  refine ⟨ps, hP ps h1, h2, fun pos cv e => ?_⟩
  obtain ⟨c, e1, e2⟩ := h3 pos cv e
  exact ⟨c, e1, hc c e2⟩
/-- no code object stands at a -/
def NoCode (H : Hp) (a : Addr) : Prop := ∀ c (q : HardO c), H a ≠ some q.1
theorem noCode {a : Addr} {o : HO} (h : H a = some o) (n : ∀ c (q : HardO c), o ≠ q.1) : NoCode H a := fun c q z => n c q (Option.some.inj (h.symm.trans z))
theorem code_lst {xs : List V} (c : Addr) (q : HardO c) : HO.lst xs ≠ q.1 := fun z => by
  obtain ⟨o, ⟨r, e⟩ | ⟨ys, e⟩⟩ := q
  · subst e; unfold LamX.CodeO at z; cases z
  · subst e; cases z
theorem code_dK {xs : List (Key × V)} (c : Addr) (q : HardO c) : HO.dK xs ≠ q.1 := fun z => by
  obtain ⟨o, ⟨r, e⟩ | ⟨ys, e⟩⟩ := q
  · subst e; unfold LamX.CodeO at z; cases z
  · subst e; cases z
theorem code_dT {xs : List (List Key × V)} (c : Addr) (q : HardO c) : HO.dT xs ≠ q.1 := fun z => by
  obtain ⟨o, ⟨r, e⟩ | ⟨ys, e⟩⟩ := q
  · subst e; unfold LamX.CodeO at z; cases z
  · subst e; cases z
theorem code_tbl {xs : Array Value} (c : Addr) (q : HardO c) : HO.tbl xs ≠ q.1 := fun z => by
  obtain ⟨o, ⟨r, e⟩ | ⟨ys, e⟩⟩ := q
  · subst e; unfold LamX.CodeO at z; cases z
  · subst e; cases z
theorem code_ins {C dx : Addr} {fs : List (Str × V)} (c : Addr) (q : HardO c) : HO.ins C dx fs ≠ q.1 := fun z => by
  obtain ⟨o, ⟨r, e⟩ | ⟨ys, e⟩⟩ := q
  · subst e; unfold LamX.CodeO at z; cases z
  · subst e; cases z
theorem Bok.at_mv (ok : Bok B H) {a : Addr} (z : B.mv a) : ∃ o, H a = some o := by
  rcases z with zz | zz
  · obtain ⟨_, _, _, _, _, hb, _⟩ := ok.bag a zz
    exact ⟨_, hb⟩
  · obtain ⟨q, zz⟩ := zz
    obtain ⟨_, hb, _⟩ := ok.tab a q zz
    exact ⟨_, hb⟩
/-- what may change stands there -/
structure Mvo (B : Bs) (H : Hp) : Prop where
  bag : ∀ b, B.bag = some b → Bg B.cel H b
  tab : ∀ a q, B.tab a = some q → LamX.TabS H a q
theorem Bok.mvo (ok : Bok B H) : Mvo B H := ⟨ok.bag, ok.tab⟩
theorem Mvo.at_mv (ok : Mvo B H) {a : Addr} (z : B.mv a) : ∃ o, H a = some o := by
  rcases z with zz | zz
  · obtain ⟨_, _, _, _, _, hb, _⟩ := ok.bag a zz
    exact ⟨_, hb⟩
  · obtain ⟨q, zz⟩ := zz
    obtain ⟨_, hb, _⟩ := ok.tab a q zz
    exact ⟨_, hb⟩
theorem Mvo.no_hard (ok : Mvo B H) {a : Addr} (z : B.mv a) (c : Addr) (q : HardO c) : H a ≠ some q.1 := by
  rcases z with zz | ⟨q', zz⟩
  · obtain ⟨_, _, _, _, _, hb, _⟩ := ok.bag a zz
    exact noCode hb code_lst c q
  · obtain ⟨_, hb, _⟩ := ok.tab a q' zz
    exact noCode hb code_tbl c q
theorem Mvo.of (m : Mvo B' H) (b : B'.bag = B.bag) (c : B'.cel = B.cel) (t : B'.tab = B.tab) : Mvo B H := ⟨fun a h => by
  have := m.bag a (b.trans h)
  rw [c] at this
  exact this, fun a q h => m.tab a q (by rw [t]; exact h)⟩
/-- the same movable places -/
theorem mv_of (b : B'.bag = B.bag) (t : B'.tab = B.tab) {a : Addr} : B'.mv a ↔ B.mv a := by
  unfold Bs.mv Bs.isT
  rw [b, t]
theorem Bok.mv_own (ok : Bok B H) {a : Addr} (z : B.mv a) (i : Nat) : a ∉ B.own i := z.elim (fun z => (ok.nown a z i).1) fun z => (ok.ntab a z).1 i
theorem ExS.mv (e : ExS B H B' H') {a : Addr} : B'.mv a ↔ B.mv a := by
  unfold Bs.mv Bs.isT
  rw [e.bag, e.tab]
theorem Ext.refl (h : Bok B H) : Ext B H H := ⟨fun _ _ _ h => h, h⟩
theorem Ext.trans {H2 : Hp} (a : Ext B H H') (b : Ext B H' H2) : Ext B H H2 := ⟨fun x o h1 h => b.same x o h1 (a.same x o h1 h), b.ok⟩
theorem Ext.toS (e : Ext B H H') : ExS B H B H' := ⟨rfl, rfl, rfl, fun _ h => h, fun _ h => .inl h, fun i _ h => .inl ⟨i, h⟩, fun a o h1 _ h => e.same a o h1 h, e.ok⟩
theorem ExS.trans {B2 : Bs} {H2 : Hp} (a : ExS B H B' H') (b : ExS B' H' B2 H2) : ExS B H B2 H2 where
  bag := b.bag.trans a.bag
  cel := b.cel.trans a.cel
  tab := b.tab.trans a.tab
  sub := fun x h => b.sub x (a.sub x h)
  new := fun x h => by
    rcases b.new x h with h | h
    · exact a.new x h
    · by_cases q : B.off x
      · exact .inl q
      · cases e : H x with
        | none => exact .inr rfl
        | some o =>
          rw [a.same x o (off_bag q) (off_own q) e] at h
          cases h
  newo := fun i x h => by
    rcases b.newo i x h with ⟨j, h⟩ | h
    · exact a.newo j x h
    · by_cases q : ∃ j, x ∈ B.own j
      · exact .inl q
      · cases e : H x with
        | none => exact .inr rfl
        | some o =>
          by_cases qb : B.mv x
          · obtain ⟨_, hb⟩ := a.ok.at_mv (a.mv.mpr qb)
            rw [hb] at h
            cases h
          · rw [a.same x o qb (fun j z => q ⟨j, z⟩) e] at h
            cases h
  same := fun x o h1 h2 h => by
    refine b.same x o (fun z => h1 (a.mv.mp z)) (fun i z => ?_) (a.same x o h1 h2 h)
    rcases a.newo i x z with ⟨j, z⟩ | z
    · exact h2 j z
    · rw [h] at z
      cases z
  ok := b.ok
theorem ExS.refl (h : Bok B H) : ExS B H B H := (Ext.refl h).toS
theorem sub_of (ok : Bok B H) (all : ∀ a, B.off a → B'.off a) (newo : ∀ i a, a ∈ B'.own i → (∃ j, a ∈ B.own j) ∨ H a = none) (a : Addr) (h : B.mv a ∨ B.hid a) : B'.mv a ∨ B'.hid a := by
  have nn : H a ≠ none := h.elim (fun z w => by obtain ⟨_, q⟩ := ok.at_mv z; rw [w] at q; cases q) (ok.hid a)
  have no : ∀ j, a ∉ B.own j := fun j z => h.elim (fun w => ok.mv_own w j z) (ok.nh j a z)
  rcases all a (h.imp id .inl) with z | z | ⟨i, z⟩
  · exact .inl z
  · exact .inr z
  · rcases newo i a z with ⟨j, w⟩ | w
    · exact (no j w).elim
    · exact (nn w).elim
theorem mh_off {a : Addr} (h : B.mv a ∨ B.hid a) : B.off a := h.imp id .inl
/-- .. and nothing that is off becomes data -/
structure ExO (B : Bs) (H : Hp) (B' : Bs) (H' : Hp) : Prop extends ExS B H B' H' where
  all : ∀ a, B.off a → B'.off a
theorem ExO.refl (h : Bok B H) : ExO B H B H := ⟨ExS.refl h, fun _ h => h⟩
theorem ExO.trans {B2 : Bs} {H2 : Hp} (a : ExO B H B' H') (b : ExO B' H' B2 H2) : ExO B H B2 H2 := ⟨a.toExS.trans b.toExS, fun x h => b.all x (a.all x h)⟩
/-- tuples stay -/
theorem tupS {K : PySem.W.Frag} (e : ∀ a xs, H a = some (.tup xs) → H' a = some (.tup xs)) (e2 : ∀ a o xs, H a = some (.frz o (.tup xs)) → H' a = some (.frz o (.tup xs))) {a : Addr} {xs : List V} (h : SqT K H a xs) : SqT K H' a xs := by
  rcases h with (h | ⟨o, h⟩) | h
  · exact .inl (.inl (e _ _ h))
  · exact .inl (.inr ⟨o, e2 _ _ _ h⟩)
  · exact .inr h
theorem Ow.ext (e : Ext B H H') (ok : Bok B H) {s : Sh} {x : PyData} {fp : List Addr} (hf : ∀ a ∈ fp, ∃ i, a ∈ B.own i) (h : Ow W (TM.offs B H) H s v x fp) : Ow W (TM.offs B H') H' s v x fp :=
  Ow_mono e.offs (fun a ha o q => by
    obtain ⟨i, hi⟩ := hf a ha
    exact e.same a o (fun z => ok.mv_own z i hi) q) h
theorem RdS.fmono {s : Sl} {v : V} (hs : ∃ x Γ, s = .kp x Γ) (h : RdS W B H v s) (sm : ∀ a o, TM.offs B H a = some o → TM.offs B' H' a = some o) (eb : B'.bag = B.bag) : RdS W B' H' v s := by
  obtain ⟨x, Γ, rfl⟩ := hs
  exact ⟨Dq_mono sm h.1, fun a o z => sm a o (h.2.1 a o z), eb.trans h.2.2⟩
theorem isFn {x : PyData} {Γ : Kp} : ∃ x' Γ', Sl.kp x Γ = .kp x' Γ' := ⟨_, _, rfl⟩
theorem RdS.mono (e : Ext B H H') (ok : Bok B H) (h : RdS W B H v s) : RdS W B H' v s := by
  cases s with
  | d x => exact Dq_mono e.offs h
  | own sh x =>
    obtain ⟨fp, h1, h2⟩ := h
    exact ⟨fp, Ow.ext e ok h2 h1, h2⟩
  | bag => exact h
  | kp _ _ => exact RdS.fmono (W := W) isFn h e.offs rfl
  | tb _ _ => exact h
theorem RdI.rds {i : Nat} (h : RdI W B H i v s) : RdS W B H v s := by
  cases s with
  | d x => exact h
  | own sh x => exact ⟨_, h, fun a ha => ⟨i, ha⟩⟩
  | bag => exact h
  | kp _ _ => exact h
  | tb _ _ => exact h
theorem RdI.fmono {s : Sl} {v : V} {i : Nat} (hs : ∃ x Γ, s = .kp x Γ) (h : RdI W B H i v s) (sm : ∀ a o, TM.offs B H a = some o → TM.offs B' H' a = some o) (eb : B'.bag = B.bag) : RdI W B' H' i v s := by
  obtain ⟨x, Γ, rfl⟩ := hs
  exact ⟨Dq_mono sm h.1, fun a o z => sm a o (h.2.1 a o z), eb.trans h.2.2⟩
theorem RdI.mono {i : Nat} (e : Ext B H H') (ok : Bok B H) (h : RdI W B H i v s) : RdI W B H' i v s := by
  cases s with
  | d x => exact Dq_mono e.offs h
  | own sh x => exact Ow.ext e ok (fun a ha => ⟨i, ha⟩) h
  | bag => exact h
  | kp _ _ => exact RdI.fmono (W := W) isFn h e.offs rfl
  | tb _ _ => exact h
theorem Rho.mono (r : Rho W B H σ ρ) (e : Ext B H H') : Rho W B H' σ ρ := ⟨e.ok, r.len, fun i s h => by
  obtain ⟨v, h1, h2⟩ := r.get i s h
  exact ⟨v, h1, h2.mono e r.ok⟩⟩
theorem RdX.mono (e : Ext B H H') {cls : Value} {d : Option Addr} {x : PyData} (h : RdX W B H cls d x) : RdX W B H' cls d x := by
  unfold RdX at h ⊢
  split at h
  · obtain ⟨C, dx, fs, h1, h2, h3, h4, h5, h6⟩ := h
    exact ⟨C, dx, fs, h1, h2, h3, e.same dx _ (off_bag h5) h4, h5, DqF_mono e.offs h6⟩
  · exact h.elim
/-- as data, on the whole heap -/
def toP : Sl → Option PyData
  | .d x => some x
  | .own _ x => some x
  | .kp x _ => some x
  | _ => none
theorem RdS.dq {d : PyData} (h : RdS W B H v s) (e : toP s = some d) : Dq W H v d := by
  cases s with
  | d x => cases e; exact Dq_mono (fun _ _ h => offs_sub h) h
  | own sh x =>
    cases e
    obtain ⟨fp, h1, _⟩ := h
    exact h1.dq fun _ _ h => offs_sub h
  | bag => cases e
  | kp x _ => cases e; exact Dq_mono (fun _ _ h => offs_sub h) h.1
  | tb _ _ => cases e
theorem RdS.dp {d : PyData} (h : RdS W B H v s) (e : toP s = some d) (p : pln d = true) : Dp W.K H v d := (h.dq e).dp p
/-- a list's items that are data -/
def asL : Sl → Option (List PyData)
  | .d (.list ds) => some ds
  | .own (.l .d) (.list ds) => some ds
  | .kp (.list ds) _ => some ds
  | _ => none
theorem RdS.lst {ds : List PyData} (h : RdS W B H v s) (e : asL s = some ds) : ∃ p vs, v = .ref p ∧ H p = some (.lst vs) ∧ DqAll W (TM.offs B H) vs ds := by
  unfold asL at e
  split at e
  · cases e
    cases h with
    | lst h t => exact ⟨_, _, rfl, offs_sub h, t⟩
  · cases e
    obtain ⟨fp, h1, _⟩ := h
    cases h1 with
    | l h t => exact ⟨_, _, rfl, h, t.data.1⟩
  · cases e
    obtain ⟨h1, _⟩ := h
    cases h1 with
    | lst h t => exact ⟨_, _, rfl, offs_sub h, t⟩
  · cases e
theorem RdS.tup {ds : List PyData} (h : RdS W B H v (.d (.tuple ds))) : ∃ p vs, v = .ref p ∧ SqT W.K H p vs ∧ DqAll W (TM.offs B H) vs ds := by
  cases h with
  | tup h t => exact ⟨_, _, rfl, SqT.of (offs_sub h), t⟩
theorem RdS.int {i : Int} (h : RdS W B H v (.d (.int i))) : v = .int i := by cases h; rfl
theorem RdS.str {i : Str} (h : RdS W B H v (.d (.str i))) : v = .str i := by cases h; rfl
theorem RdS.bl {i : Bool} (h : RdS W B H v (.d (.bool i))) : v = .bl i := by cases h; rfl
theorem RdS.non (h : RdS W B H v (.d .none)) : v = .non := by cases h; rfl
theorem Bok.upd (h : Bok B H) {p : Addr} {o : HO} (hp : H p = none) : Bok B (upd H p o) := by
  have ne : ∀ a, H a ≠ none → a ≠ p := fun a q z => by
    subst z
    exact q hp
  have sm : ∀ a u, H a = some u → L2.upd H p o a = some u := fun a u e => by
    rw [upd_ne (ne_of_none e hp)]
    exact e
  refine ⟨fun b hb => ?_, h.nown, fun a ha => ?_, fun i a ha => ?_, h.nd, h.apart, h.nh, fun a q ha => (h.tab a q ha).up (fun _ z => sm _ _ z) (fun _ z => sm _ _ z), h.ntab, fun c q z => ?_⟩
  · obtain ⟨cs, i, r, m, n, h1, h2, h5⟩ := h.bag b hb
    exact ⟨cs, i, r, m, n, sm _ _ h1, sm _ _ h2, h5⟩
  · rw [upd_ne (ne a (h.hid a ha))]
    exact h.hid a ha
  · rw [upd_ne (ne a (h.own i a ha))]
    exact h.own i a ha
  · by_cases hc : c = p
    · subst hc
      exact ⟨fun i z => h.own i c z hp, fun z => h.hid c z hp⟩
    · rw [upd_ne hc] at z
      exact h.cod c q z
theorem Ext.new (h : Bok B H) {p : Addr} {o : HO} (hp : H p = none) : Ext B H (upd H p o) :=
  ⟨fun a u _ e => by rw [upd_ne (ne_of_none e hp)]; exact e, h.upd hp⟩
theorem Bok.free (h : Bok B H) {p : Addr} (hp : H p = none) : ¬ B.off p := by
  rintro (z | z | ⟨i, z⟩)
  · obtain ⟨_, hb⟩ := h.at_mv z
    rw [hp] at hb
    cases hb
  · exact h.hid p z hp
  · exact h.own i p z hp
theorem new_lst (h : Bok B H) {p : Addr} {vs : List V} {ds : List PyData} (hp : H p = none) (hd : DqAll W (TM.offs B H) vs ds) : Ext B H (upd H p (.lst vs)) ∧ RdS W B (upd H p (.lst vs)) (.ref p) (.d (.list ds)) := by
  have e := Ext.new h (o := .lst vs) hp
  exact ⟨e, Dq.lst (offs_at upd_same (h.free hp)) (DqAll_mono e.offs hd)⟩
theorem new_tup (h : Bok B H) {p : Addr} {vs : List V} {ds : List PyData} (hp : H p = none) (hd : DqAll W (TM.offs B H) vs ds) : Ext B H (upd H p (.tup vs)) ∧ RdS W B (upd H p (.tup vs)) (.ref p) (.d (.tuple ds)) := by
  have e := Ext.new h (o := .tup vs) hp
  exact ⟨e, Dq.tup (offs_at upd_same (h.free hp)) (DqAll_mono e.offs hd)⟩
end
def KE (W : Wd) (B : Bs) (H : Hp) (Q : VK) : Sl → Prop := fun s => ∀ v H', Ext B H H' → RdS W B H' v s → Q v H'
def EE (W : Wd) (Z : WX) (B : Bs) (H : Hp) (σ : L2.St) : PyData → Prop := fun x => ∀ cls d H', Ext B H H' → RdX W B H' cls d x → Z cls d σ H'
def tD (W : Wd) (Z : WX) (f : Rn → Fr Sl) : TE := fun σ H Q => ∃ B ρ, Rho W B H σ ρ ∧ (f ρ).wpx (EE W Z B H σ) (KE W B H Q)
def tDT (W : Wd) (Z : WX) (f : Rn → Fr Bool) : TT := fun σ H Q => ∃ B ρ, Rho W B H σ ρ ∧ (f ρ).wpx (EE W Z B H σ) fun b => ∀ H', Ext B H H' → Q b H'
def tDA (W : Wd) (Z : WX) (f : Rn → Fr (List Sl)) : TA := fun σ H Q => ∃ B ρ, Rho W B H σ ρ ∧ (f ρ).wpx (EE W Z B H σ) fun ss => ∀ vs H', Ext B H H' → RdSs W B H' vs ss → Q vs H'
abbrev XE (X : Cx) (Z : WX) (e : Expr) (f : Rn → Fr Sl) : Prop := PE X e (tD X.wd Z f)
abbrev XT (X : Cx) (Z : WX) (e : Expr) (f : Rn → Fr Bool) : Prop := PT X e (tDT X.wd Z f)
abbrev XW (X : Cx) (Z : WX) (e : Expr) (f : Rn → Fr Bool) : Prop := PW X e (tDT X.wd Z f)
abbrev XA (X : Cx) (Z : WX) (es : List Expr) (f : Rn → Fr (List Sl)) : Prop := PA X es (tDA X.wd Z f)
inductive Out where
  | nx (ρ : Rn)
  | rt (s : Sl)
  | bk (ρ : Rn)
  | ct (ρ : Rn)
  | ex (ρ : Rn) (x : PyData)
def okO (W : Wd) (Z : WX) (B : Bs) (H : Hp) (D : Ends) : Out → Prop
  | .nx ρ => ∀ B' σ' H', ExS B H B' H' → Rho W B' H' σ' ρ → D.nx σ' H'
  | .bk ρ => ∀ B' σ' H', ExS B H B' H' → Rho W B' H' σ' ρ → D.bk σ' H'
  | .ct ρ => ∀ B' σ' H', ExS B H B' H' → Rho W B' H' σ' ρ → D.ct σ' H'
  | .rt s => ∀ B' v H', ExS B H B' H' → RdS W B' H' v s → D.rt v H'
  | .ex ρ x => ∀ B' σ' H' cls d, ExS B H B' H' → Rho W B' H' σ' ρ → RdX W B' H' cls d x → Z cls d σ' H'
def tDS (W : Wd) (Z : WX) (g : Rn → Fr Out) : TS := fun D σ H => ∃ B ρ, Rho W B H σ ρ ∧ (g ρ).wp (okO W Z B H D)
abbrev XS (X : Cx) (Z : WX) (st : Stmt) (g : Rn → Fr Out) : Prop := PS X st (tDS X.wd Z g)
abbrev XB (X : Cx) (Z : WX) (sts : List Stmt) (g : Rn → Fr Out) : Prop := PSs X sts (tDS X.wd Z g)
theorem okO.mono {W : Wd} {Z : WX} {B B' : Bs} {H H' : Hp} {D : Ends} (e : ExS B H B' H') : ∀ o, okO W Z B H D o → okO W Z B' H' D o
  | .nx _, h => fun B2 σ2 H2 e2 r => h B2 σ2 H2 (e.trans e2) r
  | .bk _, h => fun B2 σ2 H2 e2 r => h B2 σ2 H2 (e.trans e2) r
  | .ct _, h => fun B2 σ2 H2 e2 r => h B2 σ2 H2 (e.trans e2) r
  | .rt _, h => fun B2 v H2 e2 r => h B2 v H2 (e.trans e2) r
  | .ex _ _, h => fun B2 σ2 H2 cls d e2 r x => h B2 σ2 H2 cls d (e.trans e2) r x
theorem KE.mono {W : Wd} {B : Bs} {H H' : Hp} {Q : VK} (e : Ext B H H') {s : Sl} (h : KE W B H Q s) : KE W B H' Q s := fun v H2 e2 r => h v H2 (e.trans e2) r
theorem EE.mono {W : Wd} {Z : WX} {B : Bs} {H H' : Hp} {σ : L2.St} (e : Ext B H H') {x : PyData} (h : EE W Z B H σ x) : EE W Z B H' σ x := fun c d H2 e2 r => h c d H2 (e.trans e2) r
/-- an expression's end, moved on -/
theorem wpx_on {W : Wd} {Z : WX} {B : Bs} {H H' : Hp} {σ : L2.St} {Q : VK} {f : Fr Sl} (e : Ext B H H') (h : f.wpx (EE W Z B H σ) (KE W B H Q)) : f.wpx (EE W Z B H' σ) (KE W B H' Q) := Fr.wpx_mono (fun _ k => EE.mono e k) (fun _ k => KE.mono e k) h
theorem wpx_onT {W : Wd} {Z : WX} {B : Bs} {H H' : Hp} {σ : L2.St} {α : Type} {Q : α → Hp → Prop} {f : Fr α} (e : Ext B H H') (h : f.wpx (EE W Z B H σ) fun b => ∀ H', Ext B H H' → Q b H') : f.wpx (EE W Z B H' σ) fun b => ∀ H2, Ext B H' H2 → Q b H2 :=
  Fr.wpx_mono (fun _ k => EE.mono e k) (fun _ k H2 e2 => k H2 (e.trans e2)) h
section
variable {X : Cx} {e : Expr} {st : Stmt} {sts : List Stmt}
theorem _root_.L2.PE.weak {t t' : TE} (h : PE X e t) (w : ∀ σ H Q, t' σ H Q → t σ H Q) : PE X e t' := ⟨fun pins s σ H Q I q => h.run pins s σ H Q I (w σ H Q q)⟩
theorem _root_.L2.PT.weak {t t' : TT} (h : PT X e t) (w : ∀ σ H Q, t' σ H Q → t σ H Q) : PT X e t' := ⟨fun pins s σ H Q I q => h.run pins s σ H Q I (w σ H Q q)⟩
theorem _root_.L2.PW.weak {t t' : TT} (h : PW X e t) (w : ∀ σ H Q, t' σ H Q → t σ H Q) : PW X e t' := ⟨fun wh pins s σ H Q I q => h.run wh pins s σ H Q I (w σ H Q q)⟩
theorem _root_.L2.PA.weak {es : List Expr} {t t' : TA} (h : PA X es t) (w : ∀ σ H Q, t' σ H Q → t σ H Q) : PA X es t' := ⟨fun pos pins s σ H Q I q => h.run pos pins s σ H Q I (w σ H Q q)⟩
theorem _root_.L2.PS.weak {t t' : TS} (h : PS X st t) (w : ∀ D σ H, t' D σ H → t D σ H) : PS X st t' := ⟨fun pins s σ H D I q => h.run pins s σ H D I (w D σ H q)⟩
theorem _root_.L2.PSs.weak {t t' : TS} (h : PSs X sts t) (w : ∀ D σ H, t' D σ H → t D σ H) : PSs X sts t' := ⟨fun pins s σ H D I q => h.run pins s σ H D I (w D σ H q)⟩
theorem _root_.L2.PI.weak {tg : Expr} {t t' : TI} (h : PI X tg e t) (w : ∀ σ H Q, t' σ H Q → t σ H Q) : PI X tg e t' := ⟨fun pins s σ H Q I q => h.run pins s σ H Q I (w σ H Q q)⟩
end
end TM
namespace TM
open PySem PySem.Spec PyProof.Rows L2
section
variable {W : Wd} {Z : WX} {B : Bs} {ρ : Rn} {σ : L2.St} {H : Hp} {α : Type} {P : α → Prop}
theorem d1 {fa : Rn → Fr Sl} {g : Sl → Fr α} {R : VK} (hR : Rho W B H σ ρ) (hw : ((fa ρ).bind g).wpx (EE W Z B H σ) P) (k : ∀ x v H1, Ext B H H1 → RdS W B H1 v x → (g x).wpx (EE W Z B H σ) P → R v H1) : tD W Z fa σ H R :=
  ⟨B, ρ, hR, Fr.wpx_mono (fun _ z => z) (fun x q v H1 e r => k x v H1 e r q) (Fr.wpx_bind.mp hw)⟩
theorem dT {fa : Rn → Fr Bool} {g : Bool → Fr α} {R : Bool → Hp → Prop} (hR : Rho W B H σ ρ) (hw : ((fa ρ).bind g).wpx (EE W Z B H σ) P) (k : ∀ b H1, Ext B H H1 → (g b).wpx (EE W Z B H σ) P → R b H1) : tDT W Z fa σ H R :=
  ⟨B, ρ, hR, Fr.wpx_mono (fun _ z => z) (fun x q H1 e => k x H1 e q) (Fr.wpx_bind.mp hw)⟩
theorem dA {fa : Rn → Fr (List Sl)} {g : List Sl → Fr α} {R : List V → Hp → Prop} (hR : Rho W B H σ ρ) (hw : ((fa ρ).bind g).wpx (EE W Z B H σ) P) (k : ∀ x v H1, Ext B H H1 → RdSs W B H1 v x → (g x).wpx (EE W Z B H σ) P → R v H1) : tDA W Z fa σ H R :=
  ⟨B, ρ, hR, Fr.wpx_mono (fun _ z => z) (fun x q v H1 e r => k x v H1 e r q) (Fr.wpx_bind.mp hw)⟩
/-- .. behind an earlier part -/
theorem d1' {fa : Rn → Fr Sl} {g : Sl → Fr α} {R : VK} {H0 : Hp} (hR : Rho W B H0 σ ρ) (e0 : Ext B H0 H) (hw : ((fa ρ).bind g).wpx (EE W Z B H0 σ) P) (k : ∀ x v H1, Ext B H H1 → RdS W B H1 v x → (g x).wpx (EE W Z B H0 σ) P → R v H1) : tD W Z fa σ H R :=
  ⟨B, ρ, hR.mono e0, Fr.wpx_mono (fun _ z => EE.mono e0 z) (fun x q v H1 e r => k x v H1 e r q) (Fr.wpx_bind.mp hw)⟩
theorem dA' {fa : Rn → Fr (List Sl)} {g : List Sl → Fr α} {R : List V → Hp → Prop} {H0 : Hp} (hR : Rho W B H0 σ ρ) (e0 : Ext B H0 H) (hw : ((fa ρ).bind g).wpx (EE W Z B H0 σ) P) (k : ∀ x v H1, Ext B H H1 → RdSs W B H1 v x → (g x).wpx (EE W Z B H0 σ) P → R v H1) : tDA W Z fa σ H R :=
  ⟨B, ρ, hR.mono e0, Fr.wpx_mono (fun _ z => EE.mono e0 z) (fun x q v H1 e r => k x v H1 e r q) (Fr.wpx_bind.mp hw)⟩
/-- what is left, in the very place -/
theorem dE {f : Rn → Fr Sl} {Q : VK} {H0 : Hp} (hR : Rho W B H0 σ ρ) (e0 : Ext B H0 H) (hw : (f ρ).wpx (EE W Z B H0 σ) (KE W B H0 Q)) : tD W Z f σ H Q := ⟨B, ρ, hR.mono e0, wpx_on e0 hw⟩
theorem dTE {f : Rn → Fr Bool} {Q : Bool → Hp → Prop} {H0 : Hp} (hR : Rho W B H0 σ ρ) (e0 : Ext B H0 H) (hw : (f ρ).wpx (EE W Z B H0 σ) fun b => ∀ H', Ext B H0 H' → Q b H') : tDT W Z f σ H Q := ⟨B, ρ, hR.mono e0, wpx_onT e0 hw⟩
theorem d2 {fa fb : Rn → Fr Sl} {g : Sl → Sl → Fr α} {R : V → V → Hp → Prop} (hR : Rho W B H σ ρ) (hw : ((fa ρ).bind fun x => (fb ρ).bind fun y => g x y).wpx (EE W Z B H σ) P)
    (k : ∀ x y v u H2, Ext B H H2 → RdS W B H2 v x → RdS W B H2 u y → (g x y).wpx (EE W Z B H σ) P → R v u H2) : tD W Z fa σ H fun v H1 => tD W Z fb σ H1 fun u H2 => R v u H2 :=
  d1 hR hw fun x v H1 e1 r1 q1 => d1' hR e1 q1 fun y u H2 e2 r2 q2 => k x y v u H2 (e1.trans e2) (r1.mono e2 e1.ok) r2 q2
end
def k0 {α : Type} (f : Fr α) : Fr α := f.bind .ret
section
variable {X : Cx} {Z : WX} {a b c : Expr} {pos : Pos} {fa fb fc : Rn → Fr Sl} {ft fu : Rn → Fr Bool}
def fVar (i : Nat) : Rn → Fr Sl := fun ρ => match ρ[i]? with
  | some (some s) => .ret s
  | _ => .bad
theorem xe_of {t : TE} {e : Expr} {f : Rn → Fr Sl} (h : PE X e t) (w : ∀ B ρ σ H Q, Rho X.wd B H σ ρ → (f ρ).wpx (EE X.wd Z B H σ) (KE X.wd B H Q) → t σ H Q) : XE X Z e f := h.weak fun σ H Q ⟨B, ρ, hR, hw⟩ => w B ρ σ H Q hR hw
theorem xt_of {t : TT} {e : Expr} {f : Rn → Fr Bool} (h : PT X e t) (w : ∀ B ρ σ H Q, Rho X.wd B H σ ρ → (f ρ).wpx (EE X.wd Z B H σ) (fun b => ∀ H', Ext B H H' → Q b H') → t σ H Q) : XT X Z e f := h.weak fun σ H Q ⟨B, ρ, hR, hw⟩ => w B ρ σ H Q hR hw
theorem xe_var (i : Nat) {x : Str} (hN : X.N[i]? = some x := by rfl) (hv : Vis X.env.scope x := by first | exact Or.inl rfl | exact Or.inr (Or.inl rfl) | exact Or.inr (Or.inr rfl)) (hd : (x == ("__debug__" : Str)) = false := by decide)
    (hcd : (x == ("__classdict__" : Str)) = false := by decide) : XE X Z (.Name x pos) (fVar i) := xe_of (pe_var hN hv hd hcd) fun B ρ σ H Q hR hw => by
  unfold fVar at hw
  split at hw
  · rename_i s q
    obtain ⟨v, h1, h2⟩ := hR.get i s q
    exact ⟨v, h1, hw v H (Ext.refl hR.ok) h2.rds⟩
  · exact hw.elim
def fC (d : PyData) : Rn → Fr Sl := fun _ => .ret (.d d)
theorem xe_c {e : Expr} {v : V} {d : PyData} (h : PE X e (tC v)) (hd : ∀ H, Dq X.wd H v d) : XE X Z e (fC d) := xe_of h fun B ρ σ H Q hR hw => hw v H (Ext.refl hR.ok) (hd _)
theorem xe_int {i : Int} {j : Nat} : XE X Z (.Constant (.int i) j pos) (fC (.int i)) := xe_c pe_int fun _ => .int i
theorem xe_bl {i : Bool} {j : Nat} : XE X Z (.Constant (.bool i) j pos) (fC (.bool i)) := xe_c pe_bl fun _ => .bl i
theorem xe_str {i : Str} {j : Nat} : XE X Z (.Constant (.str i) j pos) (fC (.str i)) := xe_c pe_str fun _ => .str i
theorem xe_non {j : Nat} : XE X Z (.Constant .none j pos) (fC .none) := xe_c pe_non fun _ => .non
def f2 (g : Sl → Sl → Fr Sl) (fa fb : Rn → Fr Sl) : Rn → Fr Sl := fun ρ => (fa ρ).bind fun x => (fb ρ).bind fun y => g x y
def f1 (g : Sl → Fr Sl) (fa : Rn → Fr Sl) : Rn → Fr Sl := fun ρ => (fa ρ).bind g
/-- g tells what r does -/
def Tell2 (W : Wd) (r : R2) (g : Sl → Sl → Fr Sl) : Prop := ∀ B H x y v u Q E, Bok B H → RdS W B H v x → RdS W B H u y → (g x y).wpx E (KE W B H Q) → r v u H Q
theorem tOp_tell {r : R2} {g : Sl → Sl → Fr Sl} (t : Tell2 X.wd r g) : ∀ B ρ σ H Q, Rho X.wd B H σ ρ → (f2 g fa fb ρ).wpx (EE X.wd Z B H σ) (KE X.wd B H Q) → tOp r (tD X.wd Z fa) (tD X.wd Z fb) σ H Q := fun B ρ σ H Q hR hw =>
  d2 hR hw fun x y v u H2 e r1 r2 q => t B H2 x y v u Q _ e.ok r1 r2 (wpx_on e q)
theorem xe_bin {op : Operator} {r : R2} {g : Sl → Sl → Fr Sl} (ho : OpR X (binaryOp op) r) (t : Tell2 X.wd r g) (ha : XE X Z a fa) (hb : XE X Z b fb) : XE X Z (.BinOp a op b pos) (f2 g fa fb) :=
  xe_of (pe_op ho ha hb) (tOp_tell t)
theorem xe_cmp {op : CmpOp} {r : R2} {g : Sl → Sl → Fr Sl} (ho : OpR X (compareOp op) r) (t : Tell2 X.wd r g) (ha : XE X Z a fa) (hb : XE X Z b fb) (hm : behindInMarks op b = false) : XE X Z (.Compare a [op] [b] pos) (f2 g fa fb) :=
  xe_of (pe_cmpR ho ha hb hm) (tOp_tell t)
theorem xe_ix {r : R2} {g : Sl → Sl → Fr Sl} (ho : IxR X r) (t : Tell2 X.wd r g) (ha : XE X Z a fa) (hb : XE X Z b fb) (hs : PlainIx b) : XE X Z (.Subscript a b pos) (f2 g fa fb) :=
  xe_of (pe_ix ho ha hb hs) (tOp_tell t)
theorem xe_un {op : UnaryOp} {r : V → Hp → VK → Prop} {g : Sl → Fr Sl} (ho : UnR X (unaryOp op) r) (t : ∀ B H x v Q E, Bok B H → RdS X.wd B H v x → (g x).wpx E (KE X.wd B H Q) → r v H Q) (ha : XE X Z a fa) : XE X Z (.UnaryOp op a pos) (f1 g fa) :=
  xe_of (pe_un ho ha) fun B ρ σ H Q hR hw => d1 hR hw fun x v H1 e r1 q => t B H1 x v Q _ e.ok r1 (wpx_on e q)
def truth : Sl → Fr Bool
  | .d (.bool b) => .ret b
  | .d .none => .ret false
  | .d (.int i) => .ret (i != 0)
  | .d (.tuple xs) => .ret (!xs.isEmpty)
  | x => (ofO (asL x)).bind fun xs => .ret (!xs.isEmpty)
theorem isEmpty_len {α β : Type} {xs : List α} {ys : List β} (h : xs.length = ys.length) : (!xs.isEmpty) = !ys.isEmpty := by
  cases xs <;> cases ys <;> first | rfl | cases h
theorem tru_tell {W : Wd} {B : Bs} {H : Hp} {v : V} {x : Sl} {E : PyData → Prop} {P : Bool → Prop} (r : RdS W B H v x) (h : (truth x).wpx E P) : ∃ k, TruV W.K v H k ∧ P k := by
  unfold truth at h
  split at h
  · cases r; exact ⟨_, rfl, h⟩
  · cases r; exact ⟨_, rfl, h⟩
  · cases r; exact ⟨_, rfl, h⟩
  · obtain ⟨p, vs, rfl, h1, h2⟩ := RdS.tup r
    exact ⟨_, .inr (.inl ⟨vs, h1, rfl⟩), by rw [isEmpty_len (DqAll_len h2)]; exact h⟩
  · obtain ⟨xs, e, h⟩ := wp_ofO (Fr.wpx_bind.mp h)
    obtain ⟨p, vs, rfl, h1, h2⟩ := RdS.lst r e
    exact ⟨_, .inl ⟨vs, SqL.of h1, rfl⟩, by rw [isEmpty_len (DqAll_len h2)]; exact h⟩
def fT (fa : Rn → Fr Sl) : Rn → Fr Bool := fun ρ => (fa ρ).bind truth
/-- a test that is a value's truth -/
theorem xt_val (ha : XE X Z a fa) (he : ∀ whole, isTrue a X.env whole = (do let v ← whole; standAt a.pos; holding [v] (truthy v)) := by intro _; rfl) : XT X Z a (fT fa) :=
  xt_of (pt_truth ha he) fun B ρ σ H Q hR hw => d1 hR hw fun x v H1 e r1 q => by
    obtain ⟨k, h1, h2⟩ := tru_tell r1 q
    exact ⟨k, h1, h2 H1 e⟩
def toB : Sl → Fr Bool
  | .d (.bool b) => .ret b
  | _ => .bad
theorem wp_toB {x : Sl} {E : PyData → Prop} {P : Bool → Prop} (h : (toB x).wpx E P) : ∃ b, x = .d (.bool b) ∧ P b := by
  cases x with
  | d x =>
    cases x with
    | bool b => exact ⟨b, rfl, h⟩
    | _ => exact h.elim
  | _ => exact h.elim
/-- a comparison as a test -/
theorem xt_cmp {op : CmpOp} {r : R2} {g : Sl → Sl → Fr Sl} (ho : OpR X (compareOp op) r) (t : Tell2 X.wd r g) (ha : XE X Z a fa) (hb : XE X Z b fb) (hm : behindInMarks op b = false) : XT X Z (.Compare a [op] [b] pos) (fun ρ => (f2 g fa fb ρ).bind toB) :=
  xt_of (pt_cmpR ho ha hb hm) fun B ρ σ H Q hR hw => tOp_tell t B ρ σ H _ hR (Fr.wpx_mono (fun _ z => z) (fun s q v H' e r => by
    obtain ⟨b, rfl, q⟩ := wp_toB q
    exact ⟨b, r.bl, q H' e⟩) (Fr.wpx_bind.mp hw))
/-- a chain of two comparisons -/
def fChain (g g' : Sl → Sl → Fr Sl) (fa fb fc : Rn → Fr Sl) : Rn → Fr Sl := fun ρ => (fa ρ).bind fun x => (fb ρ).bind fun y => (g x y).bind fun z => (toB z).bind fun k => if k = true then (fc ρ).bind fun w => g' y w else .ret (.d (.bool false))
theorem chain_tell {r r' : R2} {g g' : Sl → Sl → Fr Sl} (t : Tell2 X.wd r g) (t' : Tell2 X.wd r' g') : ∀ B ρ σ H Q, Rho X.wd B H σ ρ → (fChain g g' fa fb fc ρ).wpx (EE X.wd Z B H σ) (KE X.wd B H Q) → tChain r r' (tD X.wd Z fa) (tD X.wd Z fb) (tD X.wd Z fc) σ H Q := fun B ρ σ H Q hR hw =>
  d2 hR hw fun x y v u H2 e r1 r2 q => t B H2 x y v u _ _ e.ok r1 r2 (Fr.wpx_mono (fun _ z => z) (fun s q z H3 e3 r3 => by
    obtain ⟨k, rfl, q⟩ := wp_toB (Fr.wpx_bind.mp q)
    refine ⟨k, r3.bl, ?_⟩
    cases k with
    | true =>
      refine d1' hR (e.trans e3) q fun w vw H4 e4 r4 q4 => ?_
      exact t' B H4 y w u vw Q _ e4.ok (r2.mono (e3.trans e4) e.ok) r4 (wpx_on ((e.trans e3).trans e4) q4)
    | false => exact q (.bl false) H3 (e.trans e3) (Dq.bl false)) (Fr.wpx_bind.mp q))
theorem xe_chain {op op' : CmpOp} {r r' : R2} {g g' : Sl → Sl → Fr Sl} (ho : OpR X (compareOp op) r) (t : Tell2 X.wd r g) (ho' : OpR X (compareOp op') r') (t' : Tell2 X.wd r' g') (ha : XE X Z a fa) (hb : XE X Z b fb) (hc : XE X Z c fc) (hm : lastMarks [op, op'] [b, c] = false := by with_unfolding_all rfl) :
    XE X Z (.Compare a [op, op'] [b, c] pos) (fChain g g' fa fb fc) := xe_of (pe_chain ho ho' ha hb hc hm) (chain_tell t t')
def fAnd (ft fu : Rn → Fr Bool) : Rn → Fr Bool := fun ρ => (ft ρ).bind fun b => if b = true then fu ρ else .ret false
def fOr (ft fu : Rn → Fr Bool) : Rn → Fr Bool := fun ρ => (ft ρ).bind fun b => if b = true then .ret true else fu ρ
def fNot (ft : Rn → Fr Bool) : Rn → Fr Bool := fun ρ => (ft ρ).bind fun b => .ret (!b)
variable {rest : List Expr}
theorem xw_or1 (ha : XT X Z a ft) : XW X Z (.BoolOp .Or [a] pos) ft := pw_or1 ha
theorem xw_or (ha : XT X Z a ft) (hb : XW X Z (.BoolOp .Or (b :: rest) pos) fu) : XW X Z (.BoolOp .Or (a :: b :: rest) pos) (fOr ft fu) := (pw_or ha hb).weak fun σ H Q ⟨B, ρ, hR, hw⟩ =>
  dT hR hw fun k H1 e q => by
    cases k with
    | false => exact dTE hR e q
    | true => exact q H1 e
theorem xt_w (h : XW X Z a ft) : XT X Z a ft := h.pt
theorem xt_not (ha : XT X Z a ft) : XT X Z (.UnaryOp .Not a pos) (fNot ft) := (pt_not ha).weak fun σ H Q ⟨B, ρ, hR, hw⟩ => dT hR hw fun k H1 e q => q H1 e
def fAndV (fa fb : Rn → Fr Sl) : Rn → Fr Sl := fun ρ => (fa ρ).bind fun x => (toB x).bind fun k => if k = true then fb ρ else .ret (.d (.bool false))
def fOrV (fa fb : Rn → Fr Sl) : Rn → Fr Sl := fun ρ => (fa ρ).bind fun x => (toB x).bind fun k => if k = true then .ret (.d (.bool true)) else fb ρ
def fNotV (fa : Rn → Fr Sl) : Rn → Fr Sl := fun ρ => (fa ρ).bind fun x => (toB x).bind fun k => .ret (.d (.bool (!k)))
theorem xe_one {op : BoolOp} (ha : XE X Z a fa) : XE X Z (.BoolOp op [a] pos) fa := pe_one ha
theorem xe_and (ha : XE X Z a fa) (hb : XE X Z (.BoolOp .And (b :: rest) pos) fb) : XE X Z (.BoolOp .And (a :: b :: rest) pos) (fAndV fa fb) := xe_of (pe_and ha hb) fun B ρ σ H Q hR hw =>
  d1 hR hw fun x v H1 e r1 q => by
    obtain ⟨k, rfl, q⟩ := wp_toB (Fr.wpx_bind.mp q)
    refine ⟨k, r1.bl, ?_⟩
    cases k with
    | true => exact dE hR e q
    | false => exact q (.bl false) H1 e (Dq.bl false)
def fIf (ft : Rn → Fr Bool) (fa fb : Rn → Fr Sl) : Rn → Fr Sl := fun ρ => (ft ρ).bind fun k => if k = true then fa ρ else fb ρ
theorem xe_if (hc : XT X Z c ft) (ha : XE X Z a fa) (hb : XE X Z b fb) : XE X Z (.IfExp c a b pos) (fIf ft fa fb) := xe_of (pe_ifExp hc ha hb) fun B ρ σ H Q hR hw =>
  dT hR hw fun k H1 e q => by
    cases k with
    | true => exact dE hR e q
    | false => exact dE hR e q
def fNil : Rn → Fr (List Sl) := fun _ => .ret []
def fCons (fa : Rn → Fr Sl) (fr : Rn → Fr (List Sl)) : Rn → Fr (List Sl) := fun ρ => (fa ρ).bind fun x => (fr ρ).bind fun xs => .ret (x :: xs)
variable {es : List Expr} {fr : Rn → Fr (List Sl)}
theorem xa_nil : XA X Z [] fNil := pa_nil.weak fun σ H Q ⟨B, ρ, hR, hw⟩ => hw [] H (Ext.refl hR.ok) .nil
theorem xa_cons (ha : XE X Z a fa) (hr : XA X Z es fr) (hs : starEach (a :: es) X.env = (false, eval a X.env) :: starEach es X.env := by rfl) : XA X Z (a :: es) (fCons fa fr) := (pa_cons ha hr hs).weak fun σ H Q ⟨B, ρ, hR, hw⟩ =>
  d1 hR hw fun x v H1 e r1 q => dA' hR e q fun xs vs H2 e2 r2 q2 => q2 (v :: vs) H2 (e.trans e2) (.cons (r1.mono e2 e.ok) r2)
def toDs : List Sl → Fr (List PyData)
  | [] => .ret []
  | .d x :: r => (toDs r).bind fun ds => .ret (x :: ds)
  | _ :: _ => .bad
theorem wp_toDs {W : Wd} {B : Bs} {H : Hp} : ∀ {xs : List Sl} {vs : List V} {E : PyData → Prop} {P : List PyData → Prop}, RdSs W B H vs xs → (toDs xs).wpx E P → ∃ ds, DqAll W (offs B H) vs ds ∧ P ds
  | [], _, E, P, .nil, h => ⟨[], .nil, h⟩
  | .d x :: r, _, E, P, .cons r1 r2, h => by
    obtain ⟨ds, h1, h2⟩ := wp_toDs r2 (Fr.wpx_bind.mp h)
    exact ⟨x :: ds, .cons r1 h1, h2⟩
  | .own _ _ :: _, _, _, _, _, h => h.elim
  | .bag :: _, _, _, _, _, h => h.elim
  | .kp _ _ :: _, _, _, _, _, h => h.elim
  | .tb _ _ :: _, _, _, _, _, h => h.elim
def line (n : Nat) : Fr Unit := if n ≤ 16777216 then .ret () else .bad
theorem wp_line {n : Nat} {E : PyData → Prop} {P : Unit → Prop} (h : (line n).wpx E P) : n ≤ sizeLine ∧ P () := by
  unfold line at h
  split at h
  · exact ⟨by rw [sizeLine_eq]; assumption, h⟩
  · exact h.elim
def fTup (fr : Rn → Fr (List Sl)) : Rn → Fr Sl := fun ρ => (fr ρ).bind fun xs => (line xs.length).bind fun _ => (toDs xs).bind fun ds => .ret (.d (.tuple ds))
def fLst (fr : Rn → Fr (List Sl)) : Rn → Fr Sl := fun ρ => (fr ρ).bind fun xs => (line xs.length).bind fun _ => (toDs xs).bind fun ds => .ret (.d (.list ds))
theorem xe_tup {k : Nat} (h : XA X Z es fr) : XE X Z (.Tuple es k pos) (fTup fr) := xe_of (pe_tup h) fun B ρ σ H Q hR hw => dA hR hw fun xs vs H1 e r q => by
  obtain ⟨hz, q⟩ := wp_line (Fr.wpx_bind.mp q)
  obtain ⟨ds, h1, h2⟩ := wp_toDs r (Fr.wpx_bind.mp q)
  have hl : vs.length = xs.length := Paired.length r
  refine ⟨by rw [hl]; exact hz, fun p hp => ?_⟩
  obtain ⟨e2, r2⟩ := new_tup e.ok hp h1
  exact h2 _ _ (e.trans e2) r2
theorem xe_lst (h : XA X Z es fr) : XE X Z (.List es pos) (fLst fr) := xe_of (pe_lst h) fun B ρ σ H Q hR hw => dA hR hw fun xs vs H1 e r q => by
  obtain ⟨hz, q⟩ := wp_line (Fr.wpx_bind.mp q)
  obtain ⟨ds, h1, h2⟩ := wp_toDs r (Fr.wpx_bind.mp q)
  have hl : vs.length = xs.length := Paired.length r
  refine ⟨by rw [hl]; exact hz, fun p hp => ?_⟩
  obtain ⟨e2, r2⟩ := new_lst e.ok hp h1
  exact h2 _ _ (e.trans e2) r2
end
end TM
namespace TM
open PySem PySem.Spec PyProof.Rows L2
def sI (g : Int → Int → PyData) : Sl → Sl → Fr Sl
  | .d (.int i), .d (.int j) => .ret (.d (g i j))
  | _, _ => .bad
def sIc (C : Int → Int → Bool) (g : Int → Int → PyData) : Sl → Sl → Fr Sl
  | .d (.int i), .d (.int j) => if C i j = true then .ret (.d (g i j)) else .bad
  | _, _ => .bad
section
variable {W : Wd}
theorem tell_I0 {g : Int → Int → Int} : Tell2 W (rI0 fun i j => .int (g i j)) (sI fun i j => .int (g i j)) := by
  intro B H x y v u Q E ok r1 r2 q
  unfold sI at q
  split at q
  · cases r1; cases r2
    exact ⟨_, _, rfl, rfl, q _ H (Ext.refl ok) (Dq.int _)⟩
  · exact q.elim
theorem tell_B0 {g : Int → Int → Bool} : Tell2 W (rI0 fun i j => .bl (g i j)) (sI fun i j => .bool (g i j)) := by
  intro B H x y v u Q E ok r1 r2 q
  unfold sI at q
  split at q
  · cases r1; cases r2
    exact ⟨_, _, rfl, rfl, q _ H (Ext.refl ok) (Dq.bl _)⟩
  · exact q.elim
theorem tell_I {C : Int → Int → Prop} {c : Int → Int → Bool} {g : Int → Int → Int} (hc : ∀ i j, c i j = true → C i j) : Tell2 W (rI C fun i j => .int (g i j)) (sIc c fun i j => .int (g i j)) := by
  intro B H x y v u Q E ok r1 r2 q
  unfold sIc at q
  split at q
  · split at q
    · cases r1; cases r2
      exact ⟨_, _, rfl, rfl, hc _ _ ‹_›, q _ H (Ext.refl ok) (Dq.int _)⟩
    · exact q.elim
  · exact q.elim
def rAddT : R2 := fun x y H Q => ∃ i j, x = .str i ∧ y = .str j ∧ i.length + j.length ≤ sizeLine ∧ Q (.str (i ++ j)) H
theorem op_addT {X : Cx} : OpR X (binaryOp .Add) rAddT := op_add_str
def sAddT : Sl → Sl → Fr Sl
  | .d (.str i), .d (.str j) => (line (i.length + j.length)).bind fun _ => .ret (.d (.str (i ++ j)))
  | _, _ => .bad
theorem tell_addT : Tell2 W rAddT sAddT := by
  intro B H x y v u Q E ok r1 r2 q
  unfold sAddT at q
  split at q
  · cases r1; cases r2
    obtain ⟨h1, h2⟩ := wp_line (Fr.wpx_bind.mp q)
    exact ⟨_, _, rfl, rfl, h1, h2 _ H (Ext.refl ok) (Dq.str _)⟩
  · exact q.elim
def sCatU : Sl → Sl → Fr Sl
  | .d (.tuple xs), .d (.tuple ys) => (line (xs.length + ys.length)).bind fun _ => .ret (.d (.tuple (xs ++ ys)))
  | _, _ => .bad
theorem tell_catU : Tell2 W (rCatA W.K) sCatU := by
  intro B H x y v u Q E ok r1 r2 q
  unfold sCatU at q
  split at q
  · rename_i xs ys
    obtain ⟨h1, h2⟩ := wp_line (Fr.wpx_bind.mp q)
    obtain ⟨a, vs, rfl, ha, da⟩ := RdS.tup r1
    obtain ⟨b, us, rfl, hb, db⟩ := RdS.tup r2
    have l1 := DqAll_len da
    have l2 := DqAll_len db
    refine ⟨a, b, vs, us, rfl, rfl, ha, hb, by rw [l1, l2]; exact h1, fun e => ?_, fun e1 e => ?_, fun e1 e2 p hp => ?_⟩
    · subst e
      have : xs = [] := by cases xs with | nil => rfl | cons _ _ => cases l1
      subst this
      exact h2 _ H (Ext.refl ok) r2
    · subst e
      have : ys = [] := by cases ys with | nil => rfl | cons _ _ => cases l2
      subst this
      rw [List.append_nil] at h2
      exact h2 _ H (Ext.refl ok) r1
    · obtain ⟨e, r⟩ := new_tup ok hp (DqAll_app da db)
      exact h2 _ _ e r
  · exact q.elim
def sCatL : Sl → Sl → Fr Sl := fun x y => (ofO (asL x)).bind fun xs => (ofO (asL y)).bind fun ys => (line (xs.length + ys.length)).bind fun _ => .ret (.d (.list (xs ++ ys)))
theorem tell_catL : Tell2 W rCat sCatL := by
  intro B H x y v u Q E ok r1 r2 q
  obtain ⟨xs, ex, q⟩ := wp_ofO (Fr.wpx_bind.mp q)
  obtain ⟨ys, ey, q⟩ := wp_ofO (Fr.wpx_bind.mp q)
  obtain ⟨h1, h2⟩ := wp_line (Fr.wpx_bind.mp q)
  obtain ⟨a, vs, rfl, ha, da⟩ := RdS.lst r1 ex
  obtain ⟨b, us, rfl, hb, db⟩ := RdS.lst r2 ey
  have l1 := DqAll_len da
  have l2 := DqAll_len db
  refine ⟨a, b, vs, us, rfl, rfl, ha, hb, by rw [l1, l2]; exact h1, fun p hp => ?_⟩
  obtain ⟨e, r⟩ := new_lst ok hp (DqAll_app da db)
  exact h2 _ _ e r
def flatD : PyData → Bool
  | .none => true
  | .bool _ => true
  | .int _ => true
  | .str _ => true
  | _ => false
def eqOk (d e : PyData) : Bool := (pln d && pln e) && ((flatD d && flatD e) || (SeqAt.shaped d && SeqAt.shaped e))
def sEq : Sl → Sl → Fr Sl := fun x y => (ofO (toP x)).bind fun d => (ofO (toP y)).bind fun e => if eqOk d e = true then .ret (.d (.bool (PyData.eqv d e))) else .bad
def sNe : Sl → Sl → Fr Sl := fun x y => (ofO (toP x)).bind fun d => (ofO (toP y)).bind fun e => if eqOk d e = true then .ret (.d (.bool (!PyData.eqv d e))) else .bad
def rEqA (K : PySem.W.Frag) : R2 := fun x y H Q => rEq x y H Q ∨ rEqD K x y H Q
def rNeA (K : PySem.W.Frag) : R2 := fun x y H Q => rNe x y H Q ∨ rNeD K x y H Q
theorem op_eqA {X : Cx} (hu : X.A.units + 64 < cLine) : OpR X (compareOp .Eq) (rEqA X.K) := op_eq.or (op_eqD hu)
theorem op_neA {X : Cx} (hu : X.A.units + 64 < cLine) : OpR X (compareOp .NotEq) (rNeA X.K) := op_ne.or (op_neD hu)
/-- flat data: by the values, or by their shape -/
theorem flat_eq {H : Hp} {v u : V} {d e : PyData} (h1 : Dp W.K H v d) (h2 : Dp W.K H u e) (fd : flatD d = true) (fe : flatD e = true) : (scal v u = true ∧ decide (v = u) = PyData.eqv d e) ∨ (SeqAt.shaped d = true ∧ SeqAt.shaped e = true) := by
  cases h1 with
  | non =>
    cases h2 with
    | non => exact .inl ⟨rfl, rfl⟩
    | bl b => exact .inl ⟨rfl, rfl⟩
    | int b => exact .inl ⟨rfl, rfl⟩
    | str b => exact .inl ⟨rfl, rfl⟩
    | lst _ _ => cases fe
    | tup _ _ => cases fe
  | bl a =>
    cases h2 with
    | non => exact .inl ⟨rfl, rfl⟩
    | bl b => exact .inl ⟨rfl, dec_bl⟩
    | int b => exact .inr ⟨rfl, rfl⟩
    | str b => exact .inl ⟨rfl, rfl⟩
    | lst _ _ => cases fe
    | tup _ _ => cases fe
  | int a =>
    cases h2 with
    | non => exact .inl ⟨rfl, rfl⟩
    | bl b => exact .inr ⟨rfl, rfl⟩
    | int b => exact .inl ⟨rfl, dec_int⟩
    | str b => exact .inl ⟨rfl, rfl⟩
    | lst _ _ => cases fe
    | tup _ _ => cases fe
  | str a =>
    cases h2 with
    | non => exact .inl ⟨rfl, rfl⟩
    | bl b => exact .inl ⟨rfl, rfl⟩
    | int b => exact .inl ⟨rfl, rfl⟩
    | str b => exact .inl ⟨rfl, dec_str⟩
    | lst _ _ => cases fe
    | tup _ _ => cases fe
  | lst _ _ => cases fd
  | tup _ _ => cases fd
theorem eqOk_pln {d e : PyData} (ok : eqOk d e = true) : pln d = true ∧ pln e = true := by
  unfold eqOk at ok
  exact Bool.and_eq_true_iff.mp (Bool.and_eq_true_iff.mp ok).1
theorem eqOk_or {H : Hp} {v u : V} {d e : PyData} (h1 : Dp W.K H v d) (h2 : Dp W.K H u e) (ok : eqOk d e = true) : (scal v u = true ∧ decide (v = u) = PyData.eqv d e) ∨ (SeqAt.shaped d = true ∧ SeqAt.shaped e = true) := by
  unfold eqOk at ok
  rcases Bool.or_eq_true_iff.mp (Bool.and_eq_true_iff.mp ok).2 with q | q
  · obtain ⟨a, b⟩ := Bool.and_eq_true_iff.mp q
    exact flat_eq h1 h2 a b
  · exact .inr (Bool.and_eq_true_iff.mp q)
theorem tell_eq : Tell2 W (rEqA W.K) sEq := by
  intro B H x y v u Q E ok r1 r2 q
  obtain ⟨d, ex, q⟩ := wp_ofO (Fr.wpx_bind.mp q)
  obtain ⟨e, ey, q⟩ := wp_ofO (Fr.wpx_bind.mp q)
  split at q
  · replace q := q _ H (Ext.refl ok) (Dq.bl _)
    obtain ⟨pd, pe⟩ := eqOk_pln ‹_›
    rcases eqOk_or (r1.dp ex pd) (r2.dp ey pe) ‹_› with ⟨h1, h2⟩ | ⟨h1, h2⟩
    · exact .inl ⟨h1, by rw [h2]; exact q⟩
    · exact .inr ⟨d, e, r1.dp ex pd, r2.dp ey pe, h1, h2, q⟩
  · exact q.elim
theorem tell_ne : Tell2 W (rNeA W.K) sNe := by
  intro B H x y v u Q E ok r1 r2 q
  obtain ⟨d, ex, q⟩ := wp_ofO (Fr.wpx_bind.mp q)
  obtain ⟨e, ey, q⟩ := wp_ofO (Fr.wpx_bind.mp q)
  split at q
  · replace q := q _ H (Ext.refl ok) (Dq.bl _)
    obtain ⟨pd, pe⟩ := eqOk_pln ‹_›
    rcases eqOk_or (r1.dp ex pd) (r2.dp ey pe) ‹_› with ⟨h1, h2⟩ | ⟨h1, h2⟩
    · exact .inl ⟨h1, by rw [h2]; exact q⟩
    · exact .inr ⟨d, e, r1.dp ex pd, r2.dp ey pe, h1, h2, q⟩
  · exact q.elim
def isNone : Sl → Bool
  | .d .none => true
  | .own _ .none => true
  | .kp .none _ => true
  | _ => false
def rIsN' : R2 := fun x y H Q => y = .non ∧ Q (.bl (decide (x = .non))) H
theorem op_isN' {X : Cx} : OpR X (compareOp .Is) rIsN' := op_isN
def sIsN : Sl → Sl → Fr Sl
  | x, .d .none => .ret (.d (.bool (isNone x)))
  | _, _ => .bad
theorem isNone_dec {B : Bs} {H : Hp} {v : V} {x : Sl} (r : RdS W B H v x) : decide (v = .non) = isNone x := by
  cases x with
  | d x => cases r <;> rfl
  | own sh x =>
    have h := RdS.dq r (d := x) rfl
    cases h <;> rfl
  | bag => obtain ⟨p, rfl, _⟩ := r; rfl
  | tb _ _ => obtain ⟨⟨p, rfl⟩, _⟩ := r; rfl
  | kp x _ =>
    have h := RdS.dq r (d := x) rfl
    cases h <;> rfl
theorem tell_isN : Tell2 W rIsN' sIsN := by
  intro B H x y v u Q E ok r1 r2 q
  unfold sIsN at q
  split at q
  · cases r2
    exact ⟨rfl, by rw [isNone_dec r1]; exact q _ H (Ext.refl ok) (Dq.bl _)⟩
  · exact q.elim
def rInC : R2 := fun x y H Q => ∃ (c : Nat) (z : Str), x = .str ⟨#[c]⟩ ∧ y = .str z ∧ Q (.bl (decide (c ∈ z.cps.toList))) H
theorem op_inC {X : Cx} : OpR X (compareOp .In) rInC := op_in_sign
theorem dp_asL {B : Bs} {H : Hp} {v : V} {x : Sl} {ds : List PyData} (r : RdS W B H v x) (e : asL x = some ds) (pl : pln.plnL ds = true) : Dp W.K H v (.list ds) := by
  obtain ⟨p, vs, rfl, h1, h2⟩ := RdS.lst r e
  exact .lst (SqL.of h1) (DqAll.dp (DqAll_mono (fun _ _ h => offs_sub h) h2) pl)
def inOk (d : PyData) (ds : List PyData) : Bool := (pln d && pln.plnL ds) && ((flatD d && ds.all flatD) || (SeqAt.shaped d && SeqAt.shaped (.list ds)))
theorem inOk_pln {d : PyData} {ds : List PyData} (ok : inOk d ds = true) : pln d = true ∧ pln.plnL ds = true := by
  unfold inOk at ok
  exact Bool.and_eq_true_iff.mp (Bool.and_eq_true_iff.mp ok).1
theorem flat_V {H : Hp} {v : V} {d : PyData} (h : Dp W.K H v d) (fd : flatD d = true) : flatV v = true := by cases h <;> first | rfl | cases fd
theorem flat_eqV {H : Hp} {v u : V} {d e : PyData} (h1 : Dp W.K H v d) (h2 : Dp W.K H u e) (fd : flatD d = true) (fe : flatD e = true) : eqV v u = PyData.eqv d e := by
  cases h1 <;> cases h2 <;> first | rfl | cases fd | cases fe
theorem flat_all {H : Hp} {v : V} {d : PyData} (h : Dp W.K H v d) (fd : flatD d = true) : ∀ {vs : List V} {ds : List PyData}, DpAll W.K H vs ds → ds.all flatD = true → vs.all flatV = true ∧ inV v vs = ds.any fun z => PyData.eqv z d
  | _, _, .nil, _ => ⟨rfl, rfl⟩
  | _, _, .cons r rs, hf => by
    rw [List.all_cons, Bool.and_eq_true_iff] at hf
    obtain ⟨h1, h2⟩ := flat_all h fd rs hf.2
    refine ⟨by rw [List.all_cons, flat_V r hf.1, h1]; rfl, ?_⟩
    show (eqV _ v || inV v _) = _
    rw [h2, flat_eqV r h hf.1 fd, List.any_cons]
theorem atI_dq {B : Bs} {H : Hp} {vs : List V} {ds : List PyData} {i : Int} {d : PyData} (h : DqAll W (offs B H) vs ds) (e : atI ds i = some d) : ∃ v, atI vs i = some v ∧ Dq W (offs B H) v d := by
  unfold atI at e ⊢
  rw [DqAll_len h]
  cases q : ixN ds.length i with
  | none => rw [q] at e; cases e
  | some j =>
    rw [q] at e
    exact DqAll_get h e
def sIxL : Sl → Sl → Fr Sl
  | x, .d (.int i) => (ofO (asL x)).bind fun ds => (ofO (atI ds i)).bind fun d => .ret (.d d)
  | _, _ => .bad
theorem tell_ixL : Tell2 W (rIxL W.K) sIxL := by
  intro B H x y v u Q E ok r1 r2 q
  unfold sIxL at q
  split at q
  · obtain ⟨ds, ex, q⟩ := wp_ofO (Fr.wpx_bind.mp q)
    obtain ⟨d, ei, q⟩ := wp_ofO (Fr.wpx_bind.mp q)
    obtain ⟨p, vs, rfl, h1, h2⟩ := RdS.lst r1 ex
    obtain ⟨w, hw, hd⟩ := atI_dq h2 ei
    cases r2
    exact ⟨p, vs, _, w, rfl, rfl, SqL.of h1, hw, q _ H (Ext.refl ok) hd⟩
  · exact q.elim
def sIxU : Sl → Sl → Fr Sl
  | .d (.tuple ds), .d (.int i) => (ofO (atI ds i)).bind fun d => .ret (.d d)
  | _, _ => .bad
theorem tell_ixU : Tell2 W (rIxT W.K) sIxU := by
  intro B H x y v u Q E ok r1 r2 q
  unfold sIxU at q
  split at q
  · obtain ⟨d, ei, q⟩ := wp_ofO (Fr.wpx_bind.mp q)
    obtain ⟨p, vs, rfl, h1, h2⟩ := RdS.tup r1
    obtain ⟨w, hw, hd⟩ := atI_dq h2 ei
    cases r2
    exact ⟨p, vs, _, w, rfl, rfl, h1, hw, q _ H (Ext.refl ok) hd⟩
  · exact q.elim
def sIxS : Sl → Sl → Fr Sl
  | .d (.str z), .d (.int i) => (line z.length).bind fun _ => (ofO (atI z.cps.toList i)).bind fun c => .ret (.d (.str ⟨#[c]⟩))
  | _, _ => .bad
theorem tell_ixS : Tell2 W rIxS sIxS := by
  intro B H x y v u Q E ok r1 r2 q
  unfold sIxS at q
  split at q
  · obtain ⟨hz, q⟩ := wp_line (Fr.wpx_bind.mp q)
    obtain ⟨c, ei, q⟩ := wp_ofO (Fr.wpx_bind.mp q)
    cases r1; cases r2
    exact ⟨_, _, c, rfl, rfl, hz, ei, q _ H (Ext.refl ok) (Dq.str _)⟩
  · exact q.elim
end
end TM
namespace TM
open PySem PySem.Spec PyProof.Rows L2
def rAddA (K : PySem.W.Frag) : R2 := fun x y H Q => rI0 (fun i j => .int (i + j)) x y H Q ∨ (rAddT x y H Q ∨ (rCatA K x y H Q ∨ rCat x y H Q))
theorem op_addA {X : Cx} : OpR X (binaryOp .Add) (rAddA X.K) := op_add.or (op_addT.or (op_catA.or op_cat))
def sAdd : Sl → Sl → Fr Sl
  | .d (.int i), .d (.int j) => .ret (.d (.int (i + j)))
  | .d (.str i), .d (.str j) => (line (i.length + j.length)).bind fun _ => .ret (.d (.str (i ++ j)))
  | .d (.tuple xs), .d (.tuple ys) => (line (xs.length + ys.length)).bind fun _ => .ret (.d (.tuple (xs ++ ys)))
  | x, y => sCatL x y
section
variable {W : Wd}
theorem tell_add : Tell2 W (rAddA W.K) sAdd := by
  intro B H x y v u Q E ok r1 r2 q
  unfold sAdd at q
  split at q
  · exact .inl (tell_I0 B H _ _ v u Q E ok r1 r2 q)
  · exact .inr (.inl (tell_addT B H _ _ v u Q E ok r1 r2 q))
  · exact .inr (.inr (.inl (tell_catU B H _ _ v u Q E ok r1 r2 q)))
  · exact .inr (.inr (.inr (tell_catL B H _ _ v u Q E ok r1 r2 q)))
end
theorem IxR.or {X : Cx} {r r' : R2} (h : IxR X r) (h' : IxR X r') : IxR X (fun x y H Q => r x y H Q ∨ r' x y H Q) := by
  intro value slice pins s σ H x y v u Q I rx ry q hs
  rcases q with q | q
  · exact h value slice pins s σ H x y v u Q I rx ry q hs
  · exact h' value slice pins s σ H x y v u Q I rx ry q hs
def rIxA (K : PySem.W.Frag) : R2 := fun x y H Q => rIxT K x y H Q ∨ (rIxS x y H Q ∨ rIxL K x y H Q)
theorem ix_any {X : Cx} : IxR X (rIxA X.K) := IxR.or ix_tup (IxR.or ix_str ix_list)
def sIx : Sl → Sl → Fr Sl
  | .d (.tuple ds), .d (.int i) => (ofO (atI ds i)).bind fun d => .ret (.d d)
  | .d (.str z), .d (.int i) => (line z.length).bind fun _ => (ofO (atI z.cps.toList i)).bind fun c => .ret (.d (.str ⟨#[c]⟩))
  | x, y => sIxL x y
theorem tell_ix {W : Wd} : Tell2 W (rIxA W.K) sIx := by
  intro B H x y v u Q E ok r1 r2 q
  unfold sIx at q
  split at q
  · exact .inl (tell_ixU B H _ _ v u Q E ok r1 r2 q)
  · exact .inr (.inl (tell_ixS B H _ _ v u Q E ok r1 r2 q))
  · exact .inr (.inr (tell_ixL B H _ _ v u Q E ok r1 r2 q))
def rInU (K : PySem.W.Frag) (neg : Bool) : R2 := fun x y H Q => ∃ d ds, Dp K H x d ∧ Dp K H y (.tuple ds) ∧ SeqAt.shaped d = true ∧ SeqAt.shaped (.tuple ds) = true ∧ Q (.bl (if neg then !(ds.any fun z => PyData.eqv z d) else ds.any fun z => PyData.eqv z d)) H
theorem op_inU {X : Cx} (hu : X.A.units + 65 < cLine) : OpR X (compareOp .In) (rInU X.K false) := by
  intro pins s σ H x y v u Q I rx ry h
  obtain ⟨d, ds, hd, he, sd, se, q⟩ := h
  obtain ⟨as, r1⟩ := Dp.reads I d x v hd rx
  obtain ⟨bs, r2⟩ := Dp.reads I (.tuple ds) y u he ry
  exact SeqAt.in_tuple_reads r2 r1 (SeqAt.canLay_of_shaped se) (SeqAt.canLay_of_shaped sd) (room_in_shaped sd hu) ⟨.bl _, H, I, rfl, q⟩
def rInS' : R2 := fun x y H Q => ∃ i j, x = .str i ∧ y = .str j ∧ Q (.bl (!(Builtin.Str.occurrences j i 0 j.length 1).isEmpty)) H
def rInA (K : PySem.W.Frag) : R2 := fun x y H Q => rInU K false x y H Q ∨ (rInC x y H Q ∨ (rInS' x y H Q ∨ (rInD K x y H Q ∨ rIn K false x y H Q)))
theorem op_inA {X : Cx} (hu : X.A.units + 65 < cLine) : OpR X (compareOp .In) (rInA X.K) := (op_inU hu).or (OpR.or op_inC (OpR.or (show OpR X (compareOp .In) rInS' from op_in_str) ((op_inD hu).or op_in_seq)))
/-- a text in a text -/
def strIn (x z : Str) : Bool := match x.cps.toList with
  | [c] => decide (c ∈ z.cps.toList)
  | _ => !(Builtin.Str.occurrences z x 0 z.length 1).isEmpty
def inD : Sl → Sl → Fr Bool
  | .d (.str x), .d (.str z) => .ret (strIn x z)
  | x, .d (.tuple ds) => (ofO (toP x)).bind fun d => if inOk d ds = true then .ret (ds.any fun z => PyData.eqv z d) else .bad
  | x, y => (ofO (toP x)).bind fun d => (ofO (asL y)).bind fun ds => if inOk d ds = true then .ret (ds.any fun z => PyData.eqv z d) else .bad
def sIn : Sl → Sl → Fr Sl := fun x y => (inD x y).bind fun b => .ret (.d (.bool b))
theorem str_one {x : Str} {c : Nat} (e : x.cps.toList = [c]) : x = ⟨#[c]⟩ := by
  have : x.cps = #[c] := by rw [← Array.toArray_toList (xs := x.cps), e]
  obtain ⟨cps⟩ := x
  simp only at this
  rw [this]
section
variable {W : Wd}
/-- what the flat way, or the deep one, asks -/
theorem in_seq {B : Bs} {H : Hp} {x y : Sl} {v u : V} {d : PyData} {ds : List PyData} (r1 : RdS W B H v x) (ex : toP x = some d) (h : Dp W.K H u (.list ds) ∨ Dp W.K H u (.tuple ds)) (ok : inOk d ds = true) :
    (∃ p xs, u = .ref p ∧ (SqL W.K H p xs ∨ SqT W.K H p xs) ∧ flatV v = true ∧ xs.all flatV = true ∧ inV v xs = ds.any fun z => PyData.eqv z d) ∨ (SeqAt.shaped d = true ∧ SeqAt.shaped (.list ds) = true) := by
  have pd := (inOk_pln ok).1
  unfold inOk at ok
  rcases Bool.or_eq_true_iff.mp (Bool.and_eq_true_iff.mp ok).2 with q | q
  · obtain ⟨a, b⟩ := Bool.and_eq_true_iff.mp q
    have hd := r1.dp ex pd
    rcases h with h | h
    · cases h with
      | lst h t =>
        obtain ⟨z1, z2⟩ := flat_all hd a t b
        exact .inl ⟨_, _, rfl, .inl h, flat_V hd a, z1, z2⟩
    · cases h with
      | tup h t =>
        obtain ⟨z1, z2⟩ := flat_all hd a t b
        exact .inl ⟨_, _, rfl, .inr h, flat_V hd a, z1, z2⟩
  · exact .inr (Bool.and_eq_true_iff.mp q)
theorem tell_in : Tell2 W (rInA W.K) sIn := by
  intro B H x y v u Q E ok r1 r2 q
  replace q := Fr.wpx_bind.mp q
  unfold inD at q
  split at q
  · rename_i x z
    cases r1; cases r2
    replace q := q (.bl _) H (Ext.refl ok) (Dq.bl _)
    unfold strIn at q
    split at q
    · rename_i c e
      exact .inr (.inl ⟨c, z, by rw [str_one e], rfl, q⟩)
    · exact .inr (.inr (.inl ⟨x, z, rfl, rfl, q⟩))
  · obtain ⟨d, ex, q⟩ := wp_ofO (Fr.wpx_bind.mp q)
    split at q
    · replace q := q _ H (Ext.refl ok) (Dq.bl _)
      have pl := inOk_pln ‹_›
      have hu := RdS.dp r2 rfl (by rw [pln]; exact pl.2)
      rcases in_seq (y := .bag) r1 ex (.inr hu) ‹_› with ⟨p, xs, e1, e2, e3, e4, e5⟩ | ⟨h1, h2⟩
      · exact .inr (.inr (.inr (.inr ⟨p, xs, e1, e2, e3, e4, by rw [e5]; exact q⟩)))
      · exact .inl ⟨d, _, r1.dp ex pl.1, hu, h1, h2, q⟩
    · exact q.elim
  · obtain ⟨d, ex, q⟩ := wp_ofO (Fr.wpx_bind.mp q)
    obtain ⟨ds, ey, q⟩ := wp_ofO (Fr.wpx_bind.mp q)
    split at q
    · replace q := q _ H (Ext.refl ok) (Dq.bl _)
      have pl := inOk_pln ‹_›
      have hu := dp_asL r2 ey pl.2
      rcases in_seq (y := .bag) r1 ex (.inl hu) ‹_› with ⟨p, xs, e1, e2, e3, e4, e5⟩ | ⟨h1, h2⟩
      · exact .inr (.inr (.inr (.inr ⟨p, xs, e1, e2, e3, e4, by rw [e5]; exact q⟩)))
      · exact .inr (.inr (.inr (.inl ⟨d, ds, r1.dp ex pl.1, hu, h1, h2, q⟩)))
    · exact q.elim
end
def cutD {α : Type} (xs : List α) (lo hi : Option Int) : List α := (xs.drop (HT.sIx xs.length 0 lo)).take (HT.sIx xs.length xs.length hi - HT.sIx xs.length 0 lo)
theorem _root_.L2.PO.weak {X : Cx} {e : Option Expr} {t t' : TO} (h : PO X e t) (w : ∀ σ H Q, t' σ H Q → t σ H Q) : PO X e t' := ⟨fun pins s σ H Q I q => h.run pins s σ H Q I (w σ H Q q)⟩
def sSl : Sl → Option Int → Option Int → Fr Sl
  | .d (.tuple ds), lo, hi => .ret (.d (.tuple (cutD ds lo hi)))
  | .d (.str z), lo, hi => (line z.length).bind fun _ => .ret (.d (.str (cutS z lo hi)))
  | x, lo, hi => (ofO (asL x)).bind fun ds => .ret (.d (.list (cutD ds lo hi)))
def fNoP : Rn → Fr (Option Int) := fun _ => .ret none
def fP (fa : Rn → Fr Sl) : Rn → Fr (Option Int) := fun ρ => (fa ρ).bind fun x => match x with
  | .d (.int i) => .ret (some i)
  | _ => .bad
def fSl (fa : Rn → Fr Sl) (fl fh : Rn → Fr (Option Int)) : Rn → Fr Sl := fun ρ => (fa ρ).bind fun x => (fl ρ).bind fun lo => (fh ρ).bind fun hi => sSl x lo hi
section
variable {X : Cx} {Z : WX} {a b : Expr} {fa fb : Rn → Fr Sl} {pos p : Pos} {x : Str}
theorem xe_cb1 {id : String} {r : List V → Hp → VK → Prop} {g : Sl → Fr Sl} (hc : CallR X (.builtin id) r) (t : ∀ B H x v Q E, Bok B H → RdS X.wd B H v x → (g x).wpx E (KE X.wd B H Q) → r [v] H Q) (hg : Gl X x) (hm : X.mg x = none) (hv : bootBuiltins x = some (.builtin id)) (ha : XE X Z a fa)
    (hn : x ≠ "__name__" := by decide) (hdb : (x == ("__debug__" : Str)) = false := by decide) (hs : starEach [a] X.env = (false, eval a X.env) :: starEach [] X.env := by rfl) (hpl : (backTo pos (starEach [] X.env)).any (·.1) = false := by rfl) :
    XE X Z (.Call (.Name x p) [a] [] pos) (f1 g fa) :=
  xe_of (pe_callB hc hg hm hv (pa_cons ha pa_nil hs) hn hdb hs hpl) fun B ρ σ H Q hR hw => d1 hR hw fun s v H1 e r q => t B H1 s v Q _ e.ok r (wpx_on e q)
def sLen : Sl → Fr Sl
  | .d (.str z) => (line z.length).bind fun _ => .ret (.d (.int z.length))
  | .d (.tuple xs) => .ret (.d (.int xs.length))
  | x => (ofO (asL x)).bind fun xs => .ret (.d (.int xs.length))
theorem len_tell {W : Wd} (B : Bs) (H : Hp) (x : Sl) (v : V) (Q : VK) (E : PyData → Prop) (ok : Bok B H) (r : RdS W B H v x) (q : (sLen x).wpx E (KE W B H Q)) : ∃ y n, [v] = [y] ∧ LenV W.K y H n ∧ Q (.int n) H := by
  unfold sLen at q
  split at q
  · cases r
    obtain ⟨hz, q⟩ := wp_line (Fr.wpx_bind.mp q)
    exact ⟨_, _, rfl, ⟨hz, rfl⟩, q _ H (Ext.refl ok) (Dq.int _)⟩
  · obtain ⟨p, vs, rfl, h1, h2⟩ := RdS.tup r
    exact ⟨_, _, rfl, .inr ⟨vs, h1, rfl⟩, by rw [DqAll_len h2]; exact q _ H (Ext.refl ok) (Dq.int _)⟩
  · obtain ⟨ds, ex, q⟩ := wp_ofO (Fr.wpx_bind.mp q)
    obtain ⟨p, vs, rfl, h1, h2⟩ := RdS.lst r ex
    exact ⟨_, _, rfl, .inl ⟨vs, SqL.of h1, rfl⟩, by rw [DqAll_len h2]; exact q _ H (Ext.refl ok) (Dq.int _)⟩
theorem xe_len (hm : X.mg "len" = none) (ha : XE X Z a fa) (hg : Gl X "len" := by rfl) (hs : starEach [a] X.env = (false, eval a X.env) :: starEach [] X.env := by rfl) (hpl : (backTo pos (starEach [] X.env)).any (·.1) = false := by rfl) : XE X Z (.Call (.Name "len" p) [a] [] pos) (f1 sLen fa) :=
  xe_cb1 call_len len_tell hg hm boot_len ha (by decide) (by decide) hs hpl
def bools : List PyData → Fr (List Bool)
  | [] => .ret []
  | .bool b :: r => (bools r).bind fun bs => .ret (b :: bs)
  | _ :: _ => .bad
theorem wp_bools {W : Wd} {H : Hp} : ∀ {ds : List PyData} {vs : List V} {E : PyData → Prop} {P : List Bool → Prop}, DqAll W H vs ds → (bools ds).wpx E P → ∃ bs, vs = bs.map V.bl ∧ P bs
  | [], _, E, P, .nil, h => ⟨[], rfl, h⟩
  | .bool b :: r, _, E, P, .cons r1 r2, h => by
    obtain ⟨bs, rfl, h2⟩ := wp_bools r2 (Fr.wpx_bind.mp h)
    cases r1
    exact ⟨b :: bs, rfl, h2⟩
  | .none :: _, _, _, _, _, h => h.elim
  | .int _ :: _, _, _, _, _, h => h.elim
  | .str _ :: _, _, _, _, _, h => h.elim
  | .list _ :: _, _, _, _, _, h => h.elim
  | .tuple _ :: _, _, _, _, _, h => h.elim
  | .dict _ :: _, _, _, _, _, h => h.elim
def sAll (x : Sl) : Fr Sl := (ofO (asL x)).bind fun ds => (bools ds).bind fun bs => .ret (.d (.bool (bs.all id)))
theorem xe_all (hc : X.calm = true) (hm : X.mg "all" = none) (hv : bootBuiltins "all" = some (.builtin "all")) (ha : XE X Z a fa) (hg : Gl X "all" := by rfl) (hs : starEach [a] X.env = (false, eval a X.env) :: starEach [] X.env := by rfl) (hpl : (backTo pos (starEach [] X.env)).any (·.1) = false := by rfl) : XE X Z (.Call (.Name "all" p) [a] [] pos) (f1 sAll fa) :=
  xe_cb1 (cr_all hc) (fun B H x v Q E ok r q => by
    obtain ⟨ds, ex, q⟩ := wp_ofO (Fr.wpx_bind.mp q)
    obtain ⟨p, vs, rfl, h1, h2⟩ := RdS.lst r ex
    obtain ⟨bs, rfl, q⟩ := wp_bools h2 (Fr.wpx_bind.mp q)
    exact ⟨p, bs, rfl, SqL.of h1, q _ H (Ext.refl ok) (Dq.bl _)⟩) hg hm hv ha (by decide) (by decide) hs hpl
def seqD : Sl → Fr (List PyData)
  | .d (.tuple ds) => .ret ds
  | x => ofO (asL x)
end
inductive Ty where
  | int | bool | str | tuple | list
def Ty.nm : Ty → String
  | .int => "int"
  | .bool => "bool"
  | .str => "str"
  | .tuple => "tuple"
  | .list => "list"
def isT : Ty → PyData → Bool
  | .int, .int _ => true
  | .int, .bool _ => true
  | .bool, .bool _ => true
  | .str, .str _ => true
  | .tuple, .tuple _ => true
  | .list, .list _ => true
  | _, _ => false
def tyN : PyData → String
  | .none => "NoneType"
  | .bool _ => "bool"
  | .int _ => "int"
  | .str _ => "str"
  | .list _ => "list"
  | .tuple _ => "tuple"
  | .dict _ => "dict"
theorem kit_isT {W : Wd} (d : PyData) (t : Ty) : PySem.W.kitOne W.K (.type (tyN d)) (.type t.nm) = some (isT t d) := by
  refine kit_ty ?_
  cases d <;> cases t <;> (simp only [tyN, Ty.nm, isT]; decide +kernel)
def notD : PyData → Bool
  | .dict _ => false
  | _ => true
theorem tyx {W : Wd} {B : Bs} {H : Hp} {x : Sl} {v : V} {d : PyData} (r : RdS W B H v x) (e : toP x = some d) (nd : notD d = true) : TyX W.K H v (.type (tyN d)) := by
  have h := r.dq e
  cases h with
  | non => exact .base .non
  | bl b => exact .base (.bl _)
  | int b => exact .base (.int _)
  | str b => exact .base (.str _)
  | lst h _ => exact .base (.lst h)
  | tup h1 _ =>
    exact .base (.tup h1)
  | dK _ _ => cases nd
  | dT _ _ => cases nd
  | ins _ _ _ => cases nd
  | me _ _ _ => cases nd
  | fn _ _ _ _ => cases nd
  | err _ _ _ _ => cases nd
  | cls _ => cases nd
def sIsi (t : Ty) (x : Sl) : Fr Sl := (ofO (toP x)).bind fun d => if notD d = true then .ret (.d (.bool (isT t d))) else .bad
def sIsi2 (t u : Ty) (x : Sl) : Fr Sl := (ofO (toP x)).bind fun d => if notD d = true then .ret (.d (.bool (isT t d || isT u d))) else .bad
section
variable {X : Cx} {Z : WX} {a : Expr} {fa : Rn → Fr Sl} {pos p p2 p3 p4 : Pos} {x y : Str}
theorem xe_isi (t : Ty) (hm : X.mg "isinstance" = none) (hmt : X.mg x = none) (hv : bootBuiltins x = some (.type t.nm)) (ha : XE X Z a fa) (hg : Gl X "isinstance" := by rfl) (hgt : Gl X x := by rfl) (hn : x ≠ "__name__" := by decide) (hdb : (x == ("__debug__" : Str)) = false := by decide)
    (hs : starEach [a, .Name x p2] X.env = (false, eval a X.env) :: starEach [.Name x p2] X.env := by rfl) (hpl : (backTo pos (starEach [.Name x p2] X.env)).any (·.1) = false := by rfl) (hb : bootBuiltins "isinstance" = some (.builtin "isinstance") := by decide +kernel) :
    XE X Z (.Call (.Name "isinstance" p) [a, .Name x p2] [] pos) (f1 (sIsi t) fa) :=
  xe_of (pe_callB call_isi hg hm hb (pa_cons ha (pa_cons (pe_bltn (v := .ty t.nm) hgt hmt hv rfl hn hdb) pa_nil rfl) hs) (by decide) (by decide) hs hpl) fun B ρ σ H Q hR hw => d1 hR hw fun s v H1 e r q => by
    obtain ⟨d, ed, q⟩ := wp_ofO (Fr.wpx_bind.mp q)
    split at q
    · exact ⟨v, .ty t.nm, _, _, _, rfl, .ty _, tyx r ed ‹_›, kit_isT (W := X.wd) d t, q _ H1 e (Dq.bl _)⟩
    · exact q.elim
theorem xe_isi2 (t u : Ty) (hm : X.mg "isinstance" = none) (hmx : X.mg x = none) (hvx : bootBuiltins x = some (.type t.nm)) (hmy : X.mg y = none) (hvy : bootBuiltins y = some (.type u.nm)) (ha : XE X Z a fa) (hg : Gl X "isinstance" := by rfl) (hgx : Gl X x := by rfl) (hgy : Gl X y := by rfl)
    (hnx : x ≠ "__name__" := by decide) (hdx : (x == ("__debug__" : Str)) = false := by decide) (hny : y ≠ "__name__" := by decide) (hdy : (y == ("__debug__" : Str)) = false := by decide) {k : Nat}
    (hs : starEach [a, .Tuple [.Name x p2, .Name y p3] k p4] X.env = (false, eval a X.env) :: starEach [.Tuple [.Name x p2, .Name y p3] k p4] X.env := by rfl) (hpl : (backTo pos (starEach [.Tuple [.Name x p2, .Name y p3] k p4] X.env)).any (·.1) = false := by rfl) (hb : bootBuiltins "isinstance" = some (.builtin "isinstance") := by decide +kernel) :
    XE X Z (.Call (.Name "isinstance" p) [a, .Tuple [.Name x p2, .Name y p3] k p4] [] pos) (f1 (sIsi2 t u) fa) :=
  xe_of (pe_callB call_isiT hg hm hb (pa_cons ha (pa_cons (pe_tup (pa_cons (pe_bltn (v := .ty t.nm) hgx hmx hvx rfl hnx hdx) (pa_cons (pe_bltn (v := .ty u.nm) hgy hmy hvy rfl hny hdy) pa_nil rfl) rfl)) pa_nil rfl) hs) (by decide) (by decide) hs hpl) fun B ρ σ H Q hR hw => d1 hR hw fun s v H1 e r q => by
    obtain ⟨d, ed, q⟩ := wp_ofO (Fr.wpx_bind.mp q)
    split at q
    case isFalse => exact q.elim
    rename_i nd
    refine ⟨by show 2 ≤ sizeLine; decide, fun T hT => ?_⟩
    have e2 := Ext.new e.ok (o := .tup [.ty t.nm, .ty u.nm]) hT
    refine ⟨v, T, _, _, _, isT t d || isT u d, rfl, upd_same, .cons (.ty _) (.cons (.ty _) .nil), tyx (r.mono e2 e.ok) ed nd, ?_, q _ _ (e.trans e2) (Dq.bl _)⟩
    refine kitAny_cons (kit_isT (W := X.wd) d t) (fun h1 => ?_) (fun h1 => by rw [h1]; rfl)
    refine kitAny_cons (kit_isT (W := X.wd) d u) (fun h2 => ?_) (fun h2 => by rw [h1, h2]; rfl)
    rw [h1, h2]
    exact kitAny_nil
end
end TM
namespace TM
open PySem PySem.Spec PyProof.Rows L2
/-- slot i's own things are let go: from now on they are hidden -/
def dropO (B : Bs) (i : Nat) : Bs := ⟨B.bag, B.cel, fun a => B.hid a ∨ a ∈ B.own i, fun j => if j = i then [] else B.own j, B.tab⟩
section
variable {W : Wd} {B : Bs} {H : Hp} {σ : L2.St} {ρ : Rn}
theorem dropO_off {i : Nat} (a : Addr) : (dropO B i).off a ↔ B.off a := by
  constructor
  · rintro (h | (h | h) | ⟨j, h⟩)
    · exact .inl h
    · exact .inr (.inl h)
    · exact .inr (.inr ⟨i, h⟩)
    · by_cases q : j = i
      · rw [show (dropO B i).own j = [] from if_pos q] at h
        cases h
      · rw [show (dropO B i).own j = B.own j from if_neg q] at h
        exact .inr (.inr ⟨j, h⟩)
  · rintro (h | h | ⟨j, h⟩)
    · exact .inl h
    · exact .inr (.inl (.inl h))
    · by_cases q : j = i
      · rw [q] at h
        exact .inr (.inl (.inr h))
      · exact .inr (.inr ⟨j, by rw [show (dropO B i).own j = B.own j from if_neg q]; exact h⟩)
theorem offs_congr {B' : Bs} (h : ∀ a, B'.off a ↔ B.off a) : offs B' H = offs B H := by
  funext a
  unfold offs
  by_cases q : B.off a
  · rw [if_pos q, if_pos ((h a).mpr q)]
  · rw [if_neg q, if_neg fun z => q ((h a).mp z)]
theorem dropO_ok {i : Nat} (ok : Bok B H) : Bok (dropO B i) H := by
  have own : ∀ j, (dropO B i).own j = if j = i then [] else B.own j := fun j => rfl
  have sub : ∀ j a, a ∈ (dropO B i).own j → a ∈ B.own j := fun j a h => by
    rw [own j] at h
    split at h
    · cases h
    · exact h
  refine ⟨ok.bag, fun b hb j => ⟨fun z => (ok.nown b hb j).1 (sub j b z), fun z => (ok.nown b hb j).2 (sub j _ z)⟩, fun a ha => ha.elim (ok.hid a) (ok.own i a), fun j a ha => ok.own j a (sub j a ha), fun j => ?_, fun j k a hjk h1 h2 => ok.apart j k a hjk (sub j a h1) (sub k a h2), fun j a ha hh => ?_, ok.tab, fun a ha => ⟨fun j z => (ok.ntab a ha).1 j (sub j a z), fun z => z.elim (ok.ntab a ha).2 ((ok.ntab a ha).1 i)⟩, fun c q hc => ⟨fun j w => (ok.cod c q hc).1 j (sub j c w), fun w => w.elim (ok.cod c q hc).2 ((ok.cod c q hc).1 i)⟩⟩
  case refine_2 =>
    rcases hh with hh | hh
    · exact ok.nh j a (sub j a ha) hh
    · rw [own j] at ha
      split at ha
      · cases ha
      · rename_i q
        exact ok.apart j i a q ha hh
  rw [own j]
  split
  · exact List.nodup_nil
  · exact ok.nd j
theorem dropO_exs {i : Nat} (ok : Bok B H) : ExS B H (dropO B i) H := ⟨rfl, rfl, rfl, fun a h => h.imp id .inl, fun a h => .inl ((dropO_off a).mp h), fun j a h => by
  have own : (dropO B i).own j = if j = i then [] else B.own j := rfl
  rw [own] at h
  split at h
  · cases h
  · exact .inl ⟨j, h⟩, fun _ _ _ _ h => h, dropO_ok ok⟩
theorem dropO_exo {i : Nat} (ok : Bok B H) : ExO B H (dropO B i) H := ⟨dropO_exs ok, fun a h => (dropO_off a).mpr h⟩
theorem RdI.drop {i j : Nat} {v : V} {s : Sl} (hij : j ≠ i) (h : RdI W B H j v s) : RdI W (dropO B i) H j v s := by
  cases s with
  | d x => show Dq W (offs (dropO B i) H) v x; rw [offs_congr dropO_off]; exact h
  | own sh x =>
    show Ow W (offs (dropO B i) H) H sh v x ((dropO B i).own j)
    rw [offs_congr dropO_off, show (dropO B i).own j = B.own j from if_neg hij]
    exact h
  | bag => exact h
  | kp _ _ => exact RdI.fmono (W := W) isFn h (fun a o z => by rw [offs_congr dropO_off]; exact z) rfl
  | tb _ _ => exact h
theorem RdS.dropD {i : Nat} {v : V} {x : PyData} (h : RdS W B H v (.d x)) : RdS W (dropO B i) H v (.d x) := by
  show Dq W (offs (dropO B i) H) v x
  rw [offs_congr dropO_off]
  exact h
theorem get_set_ne {α : Type} {l : List α} {i j : Nat} {x y : α} (h : (l.set i x)[j]? = some y) : (i = j ∧ y = x) ∨ (i ≠ j ∧ l[j]? = some y) := by
  by_cases q : i = j
  · subst q
    have hl : i < l.length := by
      have := (List.getElem?_eq_some_iff.mp h).1
      rw [List.length_set] at this
      exact this
    rw [List.getElem?_set_self hl] at h
    exact .inl ⟨rfl, (Option.some.inj h).symm⟩
  · rw [List.getElem?_set_ne q] at h
    exact .inr ⟨q, h⟩
theorem Rho.set (r : Rho W B H σ ρ) {v : V} {x : PyData} (h : RdS W B H v (.d x)) (i : Nat) : Rho W (dropO B i) H (σ.set i (some v)) (ρ.set i (some (.d x))) := by
  refine ⟨dropO_ok r.ok, by rw [List.length_set, List.length_set]; exact r.len, fun j s e => ?_⟩
  have hl : j < σ.length := by
    have := (List.getElem?_eq_some_iff.mp e).1
    rw [List.length_set, r.len] at this
    exact this
  rcases get_set_ne e with ⟨q1, q2⟩ | ⟨q1, q2⟩
  · cases q2
    subst q1
    exact ⟨v, List.getElem?_set_self hl, RdS.dropD h⟩
  · obtain ⟨w, h1, h2⟩ := r.get j s q2
    exact ⟨w, by rw [List.getElem?_set_ne q1]; exact h1, h2.drop (Ne.symm q1)⟩
/-- a slot forgotten -/
theorem Rho.wipe1 (r : Rho W B H σ ρ) (i : Nat) : Rho W (dropO B i) H (σ.set i none) (ρ.set i none) := by
  refine ⟨dropO_ok r.ok, by rw [List.length_set, List.length_set]; exact r.len, fun j s e => ?_⟩
  rcases get_set_ne e with ⟨q1, q2⟩ | ⟨q1, q2⟩
  · cases q2
  · obtain ⟨w, h1, h2⟩ := r.get j s q2
    exact ⟨w, by rw [List.getElem?_set_ne q1]; exact h1, h2.drop (Ne.symm q1)⟩
def wipeR (ρ : Rn) : List Nat → Rn
  | [] => ρ
  | v :: vs => (wipeR ρ vs).set v none
def dropOs (B : Bs) : List Nat → Bs
  | [] => B
  | v :: vs => dropO (dropOs B vs) v
theorem Rho.wipe (r : Rho W B H σ ρ) : ∀ vs : List Nat, Rho W (dropOs B vs) H (wipe σ vs) (wipeR ρ vs)
  | [] => r
  | v :: vs => (Rho.wipe r vs).wipe1 v
end
theorem wipe_set {σ : L2.St} {i : Nat} {x : Option V} : ∀ {vs : List Nat}, i ∈ vs → wipe (σ.set i x) vs = wipe σ vs
  | [], h => by cases h
  | v :: vs, h => by
    show (wipe (σ.set i x) vs).set v none = (wipe σ vs).set v none
    by_cases hv : i ∈ vs
    · rw [wipe_set hv]
    · have e : i = v := by
        rcases List.mem_cons.mp h with h | h
        · exact h
        · exact absurd h hv
      subst e
      have comm : ∀ us : List Nat, i ∉ us → wipe (σ.set i x) us = (wipe σ us).set i x := by
        intro us
        induction us with
        | nil => intro _; rfl
        | cons u us ih =>
          intro hn
          rw [List.mem_cons, not_or] at hn
          show (wipe (σ.set i x) us).set u none = ((wipe σ us).set u none).set i x
          rw [ih hn.2, List.set_comm _ _ hn.1]
      rw [comm vs hv, List.set_set]
inductive Tg where
  | nm (i : Nat)
  | nil
  | cons (a : Tg) (r : Tg)
  | tup (n : Nat) (r : Tg)
mutual
def TgR (K : PySem.W.Frag) : Tg → TG
  | .nm i => gName i
  | .tup n r => gTup K n (TgRs K r)
  | _ => fun _ _ _ _ => False
def TgRs (K : PySem.W.Frag) : Tg → TGs
  | .nil => gNil
  | .cons a r => gCons (TgR K a) (TgRs K r)
  | _ => fun _ _ _ _ => False
end
mutual
def setT : Tg → PyData → Rn → Option Rn
  | .nm i, x, ρ => some (ρ.set i (some (.d x)))
  | .tup n r, .tuple ds, ρ => if ds.length = n then setTs r ds ρ else none
  | _, _, _ => none
def setTs : Tg → List PyData → Rn → Option Rn
  | .nil, [], ρ => some ρ
  | .cons a r, d :: ds, ρ => match setT a d ρ with
    | some ρ1 => setTs r ds ρ1
    | none => none
  | _, _, _ => none
end
def Tg.slots : Tg → List Nat
  | .nm i => [i]
  | .nil => []
  | .cons a r => a.slots ++ r.slots
  | .tup _ r => r.slots
mutual
theorem tg_ok {W : Wd} {H : Hp} : ∀ {t : Tg} {B : Bs} {σ : L2.St} {ρ ρ' : Rn} {v : V} {x : PyData} {Q : L2.St → Hp → Prop}, Rho W B H σ ρ → RdS W B H v (.d x) → setT t x ρ = some ρ' →
    (∀ B' σ', ExO B H B' H → Rho W B' H σ' ρ' → (∀ vs, (∀ i ∈ t.slots, i ∈ vs) → wipe σ' vs = wipe σ vs) → Q σ' H) → TgR W.K t v σ H Q
  | .nm i, B, σ, ρ, ρ', v, x, Q, hR, r, e, k => by
    have e' : some (ρ.set i (some (.d x))) = some ρ' := by rw [← e]; simp only [setT]
    cases e'
    show TgR W.K (.nm i) v σ H Q
    simp only [TgR]
    exact k _ _ (dropO_exo hR.ok) (hR.set r i) fun vs h => wipe_set (h i (List.mem_singleton.mpr rfl))
  | .tup n t, B, σ, ρ, ρ', v, .tuple ds, Q, hR, r, e, k => by
    simp only [setT] at e
    split at e
    · rename_i hn
      obtain ⟨p, vs, rfl, h1, h2⟩ := RdS.tup r
      simp only [TgR]
      exact ⟨p, vs, rfl, h1, by rw [DqAll_len h2]; exact hn, tgs_ok hR h2 e fun B' σ' ex R w => k B' σ' ex R w⟩
    · cases e
  | .tup n t, B, σ, ρ, ρ', v, .none, Q, hR, r, e, k => by simp [setT] at e
  | .tup n t, B, σ, ρ, ρ', v, .bool _, Q, hR, r, e, k => by simp [setT] at e
  | .tup n t, B, σ, ρ, ρ', v, .int _, Q, hR, r, e, k => by simp [setT] at e
  | .tup n t, B, σ, ρ, ρ', v, .str _, Q, hR, r, e, k => by simp [setT] at e
  | .tup n t, B, σ, ρ, ρ', v, .list _, Q, hR, r, e, k => by simp [setT] at e
  | .tup n t, B, σ, ρ, ρ', v, .dict _, Q, hR, r, e, k => by simp [setT] at e
  | .nil, B, σ, ρ, ρ', v, x, Q, hR, r, e, k => by simp [setT] at e
  | .cons _ _, B, σ, ρ, ρ', v, x, Q, hR, r, e, k => by simp [setT] at e
theorem tgs_ok {W : Wd} {H : Hp} : ∀ {t : Tg} {B : Bs} {σ : L2.St} {ρ ρ' : Rn} {vs : List V} {ds : List PyData} {Q : L2.St → Hp → Prop}, Rho W B H σ ρ → DqAll W (offs B H) vs ds → setTs t ds ρ = some ρ' →
    (∀ B' σ', ExO B H B' H → Rho W B' H σ' ρ' → (∀ vs, (∀ i ∈ t.slots, i ∈ vs) → wipe σ' vs = wipe σ vs) → Q σ' H) → TgRs W.K t vs σ H Q
  | .nil, B, σ, ρ, ρ', vs, ds, Q, hR, r, e, k => by
    cases ds with
    | cons _ _ => simp [setTs] at e
    | nil =>
      simp only [setTs, Option.some.injEq] at e
      subst e
      cases r
      simp only [TgRs]
      exact ⟨rfl, k B σ (ExO.refl hR.ok) hR fun _ _ => rfl⟩
  | .cons a t, B, σ, ρ, ρ', vs, ds, Q, hR, r, e, k => by
    cases ds with
    | nil => simp [setTs] at e
    | cons d ds =>
      simp only [setTs] at e
      split at e
      · rename_i ρ1 e1
        cases r with
        | cons r1 r2 =>
          simp only [TgRs]
          refine ⟨_, _, rfl, tg_ok hR r1 e1 fun B1 σ1 ex1 R1 w1 => ?_⟩
          refine tgs_ok R1 (DqAll_mono ex1.offs r2) e fun B2 σ2 ex2 R2 w2 => ?_
          refine k B2 σ2 (ex1.trans ex2) R2 fun us hu => ?_
          rw [w2 us fun i hi => hu i (List.mem_append_right _ hi), w1 us fun i hi => hu i (List.mem_append_left _ hi)]
      · cases e
  | .nm _, B, σ, ρ, ρ', vs, ds, Q, hR, r, e, k => by cases ds <;> simp [setTs] at e
  | .tup _ _, B, σ, ρ, ρ', vs, ds, Q, hR, r, e, k => by cases ds <;> simp [setTs] at e
end
abbrev XG (X : Cx) (e : Expr) (t : Tg) : Prop := PG X e (TgR X.K t)
abbrev XGs (X : Cx) (es : List Expr) (t : Tg) : Prop := PGs X es (TgRs X.K t)
section
variable {X : Cx} {a : Expr} {es : List Expr} {pos : Pos} {ta t : Tg} {k n : Nat}
theorem xg_nm {i : Nat} {x : Str} (hN : X.N.Nodup) (hi : X.N[i]? = some x := by rfl) (hx : Loc X.env.scope x := by first | exact Or.inl rfl | exact Or.inr rfl) (hf : X.fn x = true ∨ X.env.scope.names.lookup x = some .local := by first | exact .inl rfl | exact .inr rfl | assumption) : XG X (.Name x pos) (.nm i) := by
  show PG X _ (TgR X.K (.nm i))
  simp only [TgR]
  exact pg_name hN hi hx hf
theorem xgs_nil : XGs X [] .nil := by
  show PGs X _ (TgRs X.K .nil)
  simp only [TgRs]
  exact pgs_nil
theorem xgs_cons (h1 : XG X a ta) (h2 : XGs X es t) (hs : (assignEach (a :: es) X.env).map (·.2) = assign a X.env :: (assignEach es X.env).map (·.2) := by rfl) : XGs X (a :: es) (.cons ta t) := by
  show PGs X _ (TgRs X.K (.cons ta t))
  simp only [TgRs]
  exact pgs_cons h1 h2 hs
theorem xg_tup (hc : X.calm = true) (h : XGs X es t) (hn : (assignEach es X.env).length = n := by rfl) (hst : (assignEach es X.env).findIdx? (·.1) = none := by rfl) : XG X (.Tuple es k pos) (.tup n t) := by
  show PG X _ (TgR X.K (.tup n t))
  simp only [TgR]
  exact pg_tup hc h hn hst
end
/-- an expression's end in a statement: an error leaves with the slots -/
def Fr.bindX {α : Type} (ρ : Rn) : Fr α → (α → Fr Out) → Fr Out
  | .ret a, f => f a
  | .bad, _ => .bad
  | .exc x, _ => .ret (.ex ρ x)
  | .draw n k, f => .draw n fun i => (k i).bindX ρ f
  | .any k, f => .any fun i => (k i).bindX ρ f
  | .anyH k, f => .anyH fun i => (k i).bindX ρ f
theorem wp_bindX {α : Type} {ρ : Rn} {f : α → Fr Out} {P : Out → Prop} : ∀ {x : Fr α}, (x.bindX ρ f).wp P → x.wpx (fun e => P (.ex ρ e)) fun a => (f a).wp P
  | .ret a, h => h
  | .bad, h => h
  | .exc x, h => h
  | .draw n k, ⟨p, g⟩ => ⟨p, fun i a b => wp_bindX (x := k i) (g i a b)⟩
  | .any k, g => fun i => wp_bindX (x := k i) (g i)
  | .anyH k, g => fun i => wp_bindX (x := k i) (g i)
section
variable {W : Wd} {Z : WX} {B : Bs} {ρ : Rn} {σ : L2.St} {H : Hp} {α : Type} {D : Ends}
theorem okX_ee (hR : Rho W B H σ ρ) {x : PyData} (h : okO W Z B H D (.ex ρ x)) : EE W Z B H σ x := fun cls d H' e r => h B σ H' cls d e.toS (hR.mono e) r
theorem s1 {fa : Rn → Fr Sl} {g : Sl → Fr Out} {R : VK} (hR : Rho W B H σ ρ) (hw : ((fa ρ).bindX ρ g).wp (okO W Z B H D)) (k : ∀ x v H1, Ext B H H1 → RdS W B H1 v x → (g x).wp (okO W Z B H D) → R v H1) : tD W Z fa σ H R :=
  ⟨B, ρ, hR, Fr.wpx_mono (fun _ z => okX_ee hR z) (fun x q v H1 e r => k x v H1 e r q) (wp_bindX hw)⟩
theorem sT {fa : Rn → Fr Bool} {g : Bool → Fr Out} {R : Bool → Hp → Prop} (hR : Rho W B H σ ρ) (hw : ((fa ρ).bindX ρ g).wp (okO W Z B H D)) (k : ∀ b H1, Ext B H H1 → (g b).wp (okO W Z B H D) → R b H1) : tDT W Z fa σ H R :=
  ⟨B, ρ, hR, Fr.wpx_mono (fun _ z => okX_ee hR z) (fun x q H1 e => k x H1 e q) (wp_bindX hw)⟩
end
def toD : Sl → Fr PyData
  | .d x => .ret x
  | _ => .bad
theorem wp_toD {x : Sl} {E : PyData → Prop} {P : PyData → Prop} (h : (toD x).wpx E P) : ∃ d, x = .d d ∧ P d := by
  cases x with
  | d x => exact ⟨x, rfl, h⟩
  | _ => exact h.elim
section
variable {X : Cx} {Z : WX} {e a : Expr} {f fa : Rn → Fr Sl} {ft : Rn → Fr Bool} {pos : Pos} {st : Stmt} {sts sts' : List Stmt} {g g' : Rn → Fr Out}
def gSeq (g g' : Rn → Fr Out) : Rn → Fr Out := fun ρ => (g ρ).bind fun o => match o with
  | .nx ρ' => g' ρ'
  | o => .ret o
theorem xb_nil : XB X Z [] (fun ρ => .ret (.nx ρ)) := pss_nil.weak fun D σ H ⟨B, ρ, hR, hw⟩ => hw B σ H (ExS.refl hR.ok) hR
theorem xb_cons (h1 : XS X Z st g) (h2 : XB X Z sts g') : XB X Z (st :: sts) (gSeq g g') := (pss_cons h1 h2).weak fun D σ H ⟨B, ρ, hR, hw⟩ => ⟨B, ρ, hR, Fr.wp_mono (fun o q => by
  cases o with
  | nx ρ' => exact fun B' σ' H' e r => ⟨B', ρ', r, Fr.wp_mono (fun o h => okO.mono e o h) q⟩
  | rt s => exact q
  | bk ρ' => exact q
  | ct ρ' => exact q
  | ex ρ' x => exact q) (Fr.wp_bind.mp hw)⟩
theorem xb_one (h1 : XS X Z st g) : XB X Z [st] g := pss_one h1
def gRet (f : Rn → Fr Sl) : Rn → Fr Out := fun ρ => (f ρ).bindX ρ fun s => .ret (.rt s)
theorem xs_ret (he : XE X Z e f) : XS X Z (.Return (some e) pos) (gRet f) := (ps_ret he).weak fun D σ H ⟨B, ρ, hR, hw⟩ => s1 hR hw fun s v H1 e r q => q B v H1 e.toS r
def gPass : Rn → Fr Out := fun ρ => .ret (.nx ρ)
def gBreak : Rn → Fr Out := fun ρ => .ret (.bk ρ)
theorem xb_nil' : XB X Z [] gPass := xb_nil
def gIf (ft : Rn → Fr Bool) (g g' : Rn → Fr Out) : Rn → Fr Out := fun ρ => (ft ρ).bindX ρ fun b => if b = true then g ρ else g' ρ
theorem xs_if (hc : XT X Z a ft) (h1 : XB X Z sts g) (h2 : XB X Z sts' g') : XS X Z (.If a sts sts' pos) (gIf ft g g') := (ps_if hc h1 h2).weak fun D σ H ⟨B, ρ, hR, hw⟩ => sT hR hw fun b H1 e q => by
  cases b with
  | true => exact ⟨B, ρ, hR.mono e, Fr.wp_mono (fun o h => okO.mono e.toS o h) q⟩
  | false => exact ⟨B, ρ, hR.mono e, Fr.wp_mono (fun o h => okO.mono e.toS o h) q⟩
/-- x = e -/
def gSet (i : Nat) (f : Rn → Fr Sl) : Rn → Fr Out := fun ρ => (f ρ).bindX ρ fun s => (toD s).bind fun x => .ret (.nx (ρ.set i (some (.d x))))
theorem xs_set {i : Nat} {x : Str} {p2 : Pos} (hN : X.N.Nodup) (he : XE X Z e f) (hi : X.N[i]? = some x := by rfl) (hx : Loc X.env.scope x := by first | exact Or.inl rfl | exact Or.inr rfl) (hs : swapsWith e (some (.Name x p2)) pos.line X.env = pure false := by rfl) (hf : X.fn x = true ∨ X.env.scope.names.lookup x = some .local := by first | exact .inl rfl | exact .inr rfl | assumption) :
    XS X Z (.Assign [.Name x p2] e pos) (gSet i f) := (ps_set hN hi hx he hs hf).weak fun D σ H ⟨B, ρ, hR, hw⟩ => s1 hR hw fun s v H1 e r q => by
  obtain ⟨d, rfl, q⟩ := wp_toD (Fr.wpx_bind.mp q)
  exact q _ _ H1 (e.toS.trans (dropO_exs e.ok)) ((hR.mono e).set r i)
/-- targets = e -/
def gAsg (t : Tg) (f : Rn → Fr Sl) : Rn → Fr Out := fun ρ => (f ρ).bindX ρ fun s => (toD s).bind fun x => (ofO (setT t x ρ)).bind fun ρ' => .ret (.nx ρ')
end
end TM
namespace TM
open PySem PySem.Spec PyProof.Rows L2
/-- any later state -/
structure ExG (B : Bs) (H : Hp) (B' : Bs) (H' : Hp) : Prop where
  bag : B'.bag = B.bag
  new : ∀ a, B'.off a → B.off a ∨ H a = none
  same : ∀ a o, ¬ B.off a → H a = some o → H' a = some o
  ok : Bok B' H'
section
variable {B B' B2 : Bs} {H H' H2 : Hp}
theorem ExG.offs (e : ExG B H B' H') : ∀ a o, TM.offs B H a = some o → TM.offs B' H' a = some o := fun a o h => by
  obtain ⟨h0, h1⟩ := offs_some h
  refine offs_at (e.same a o h1 h0) fun z => ?_
  rcases e.new a z with z | z
  · exact h1 z
  · rw [h0] at z
    cases z
theorem ExS.g (e : ExS B H B' H') : ExG B H B' H' := ⟨e.bag, e.new, fun a o h => e.same a o (off_bag h) (off_own h), e.ok⟩
end
/-- J walks the data xs, from H on -/
structure ItOk (W : Wd) (B : Bs) (J : It) (xs : List PyData) (H0 : Hp) : Prop where
  go : ∀ (i : Nat) (B' : Bs) (H : Hp) (x : PyData), ExG B H0 B' H → xs[i]? = some x → J.go i H ∧ ∀ v H', J.yld i H v H' → Ext B' H H' ∧ RdS W B' H' v (.d x)
  stop : ∀ (i : Nat) (B' : Bs) (H : Hp), ExG B H0 B' H → xs.length ≤ i → J.stop i H
def tDI (W : Wd) (Z : WX) (f : Rn → Fr (List PyData)) : TI := fun σ H R => ∃ B ρ, Rho W B H σ ρ ∧ (f ρ).wpx (EE W Z B H σ) fun xs => ∀ J H', Ext B H H' → ItOk W B J xs H' → R J H'
abbrev XI (X : Cx) (Z : WX) (tg e : Expr) (f : Rn → Fr (List PyData)) : Prop := PI X tg e (tDI X.wd Z f)
section
variable {W : Wd} {B : Bs} {H : Hp}
theorem it_list {p : Addr} {vs : List V} {ds : List PyData} (h : offs B H p = some (.lst vs)) (hd : DqAll W (offs B H) vs ds) : ItOk W B (Itl W.K p) ds H where
  go := fun i B' H' x e hx => by
    obtain ⟨v, h1, h2⟩ := DqAll_get (DqAll_mono e.offs hd) hx
    have hl := offs_sub (e.offs _ _ h)
    exact ⟨⟨vs, v, SqL.of hl, h1⟩, fun w H2 ⟨e1, e2⟩ => by
      subst e1
      have := e2 vs (SqL.of hl)
      rw [h1] at this
      cases this
      exact ⟨Ext.refl e.ok, h2⟩⟩
  stop := fun i B' H' e hx => ⟨vs, SqL.of (offs_sub (e.offs _ _ h)), by rw [DqAll_len hd]; exact hx⟩
theorem it_tup {p : Addr} {vs : List V} {ds : List PyData} (h : SqT W.K (offs B H) p vs) (hd : DqAll W (offs B H) vs ds) : ItOk W B (Itt W.K p) ds H where
  go := fun i B' H' x e hx => by
    obtain ⟨v, h1, h2⟩ := DqAll_get (DqAll_mono e.offs hd) hx
    have hl : SqT W.K H' p vs := seqT_mono (fun a o q => offs_sub (e.offs a o q)) h
    exact ⟨⟨vs, v, hl, h1⟩, fun w H2 ⟨e1, e2⟩ => by
      subst e1
      have := e2 vs hl
      rw [h1] at this
      cases this
      exact ⟨Ext.refl e.ok, h2⟩⟩
  stop := fun i B' H' e hx => ⟨vs, seqT_mono (fun a o q => offs_sub (e.offs a o q)) h, by rw [DqAll_len hd]; exact hx⟩
theorem it_str (z : Str) : ItOk W B (Its z) (z.cps.toList.map fun c => .str ⟨#[c]⟩) H where
  go := fun i B' H' x e hx => by
    rw [List.getElem?_map] at hx
    cases hc : z.cps.toList[i]? with
    | none => rw [hc] at hx; cases hx
    | some c =>
      rw [hc] at hx
      cases hx
      rw [Array.getElem?_toList] at hc
      refine ⟨(Array.getElem?_eq_some_iff.mp hc).1, fun w H2 ⟨e1, c', e2, e3⟩ => ?_⟩
      subst e1
      rw [hc] at e2
      cases e2
      subst e3
      exact ⟨Ext.refl e.ok, Dq.str _⟩
  stop := fun i B' H' e hx => by
    rw [List.length_map, Array.length_toList] at hx
    exact hx
def rangeD (lo : Int) (n : Nat) : List PyData := (List.range n).map fun (k : Nat) => .int (lo + k)
theorem it_range (lo : Int) (n : Nat) : ItOk W B (Itr lo n) (rangeD lo n) H where
  go := fun i B' H' x e hx => by
    unfold rangeD at hx
    rw [List.getElem?_map] at hx
    cases hc : (List.range n)[i]? with
    | none => rw [hc] at hx; cases hx
    | some c =>
      rw [hc] at hx
      cases hx
      have hi := (List.getElem?_eq_some_iff.mp hc).1
      rw [List.length_range] at hi
      rw [List.getElem?_range hi] at hc
      cases hc
      exact ⟨hi, fun w H2 ⟨e1, e2⟩ => by
        subst e1 e2
        exact ⟨Ext.refl e.ok, Dq.int _⟩⟩
  stop := fun i B' H' e hx => by
    unfold rangeD at hx
    rw [List.length_map, List.length_range] at hx
    exact hx
end
def iAny (K : PySem.W.Frag) (te : TE) : TI := fun σ H R => te σ H fun x H1 => (∃ a, x = .ref a ∧ (∃ xs, SqL K H1 a xs) ∧ R (Itl K a) H1) ∨ (∃ a, x = .ref a ∧ (∃ xs, SqT K H1 a xs) ∧ R (Itt K a) H1) ∨ (∃ z, x = .str z ∧ R (Its z) H1)
theorem pi_any {X : Cx} {tg l : Expr} {tl : TE} (hl : PE X l tl) : PI X tg l (iAny X.K tl) := by
  refine ⟨fun pins s σ H R I h => thn (hl.run pins s σ H _ I h) ?_⟩
  rintro v s1 ⟨x, H1, I1, r1, ⟨a, rfl, ⟨xs, hq⟩, q⟩ | ⟨a, rfl, ⟨xs, hq⟩, q⟩ | ⟨z, rfl, q⟩⟩
  · cases r1
    obtain ⟨its, rv, p, hz⟩ := I1.list hq
    exact wpAny_pyIter_list p.isList (pi_one (tk := s1.toks) I1 _ (turn_list a _) ⟨_, Heap.get?_push_size _ rfl, rfl, rfl⟩ q)
  · cases r1
    obtain ⟨its, rv, p, hz⟩ := I1.tuple hq
    exact wpAny_pyIter_tuple (show s1.heap.IsTuple a its.toArray from p) (pi_one (tk := s1.toks) I1 _ (turn_tuple a _) ⟨_, Heap.get?_push_size _ rfl, rfl, rfl⟩ q)
  · obtain ⟨t, rfl⟩ := r1
    by_cases ha : z.cps.all (· < 128) = true
    · exact wpAny_pyIter_ascii ha (pi_one (tk := s1.toks) I1 _ (turn_str _ z t "str_ascii_iterator" (.inl rfl)) ⟨_, Heap.get?_push_size _ rfl, rfl, rfl⟩ q)
    · exact wpAny_pyIter_wide (by simpa using ha) (pi_one (tk := s1.toks) I1 _ (turn_str _ z t "str_iterator" (.inr rfl)) ⟨_, Heap.get?_push_size _ rfl, rfl, rfl⟩ q)
/-- the data that are walked -/
def walkD : Sl → Fr (List PyData)
  | .d (.list ds) => .ret ds
  | .d (.tuple ds) => .ret ds
  | .d (.str z) => .ret (z.cps.toList.map fun c => .str ⟨#[c]⟩)
  | _ => .bad
def fW (fa : Rn → Fr Sl) : Rn → Fr (List PyData) := fun ρ => (fa ρ).bind walkD
section
variable {X : Cx} {Z : WX} {tg a b : Expr} {fa fb : Rn → Fr Sl} {pos p : Pos}
theorem xi_any (ha : XE X Z a fa) : XI X Z tg a (fW fa) := (pi_any ha).weak fun σ H R ⟨B, ρ, hR, hw⟩ => d1 hR hw fun x v H1 e r q => by
  unfold walkD at q
  split at q
  · cases r with
    | lst h t => exact .inl ⟨_, rfl, ⟨_, SqL.of (offs_sub h)⟩, q _ H1 e (it_list h t)⟩
  · cases r with
    | tup h t => exact .inr (.inl ⟨_, rfl, ⟨_, SqT.of (offs_sub h)⟩, q _ H1 e (it_tup (SqT.of h) t)⟩)
  · cases r
    exact .inr (.inr ⟨_, rfl, q _ H1 e (it_str _)⟩)
  · exact q.elim
@[irreducible] def sR1 (x : Sl) : Fr (List PyData) := match x with
  | .d (.int n) => if -4611686018427387904 ≤ n ∧ n < 4611686018427387904 then .ret (rangeD 0 n.toNat) else .bad
  | _ => .bad
theorem xi_range1 (hm : X.mg "range" = none) (ha : XE X Z a fa) (hg : Gl X "range" := by rfl) (hs : starEach [a] X.env = [(false, eval a X.env)] := by rfl) : XI X Z tg (.Call (.Name "range" p) [a] [] pos) (fun ρ => (fa ρ).bind sR1) :=
  (pi_range1 hg hm (pa_cons ha pa_nil hs) hs).weak fun σ H R ⟨B, ρ, hR, hw⟩ => d1 (R := fun v H2 => ∃ j : Int, [v] = [.int j] ∧ -(2 ^ 62) ≤ j ∧ j < 2 ^ 62 ∧ R (Itr 0 j.toNat) H2) hR hw fun x v H1 e r q => by
    unfold sR1 at q
    split at q
    · split at q
      · rename_i hn
        cases r
        exact ⟨_, rfl, hn.1, hn.2, q _ H1 e (it_range 0 _)⟩
      · exact q.elim
    · exact q.elim
def zipD : List PyData → List PyData → List PyData
  | x :: xs, y :: ys => .tuple [x, y] :: zipD xs ys
  | _, _ => []
theorem zipD_get : ∀ {xs ys : List PyData} {i : Nat} {z : PyData}, (zipD xs ys)[i]? = some z → ∃ x y, xs[i]? = some x ∧ ys[i]? = some y ∧ z = .tuple [x, y]
  | [], ys, i, z, h => by simp [zipD] at h
  | x :: xs, [], i, z, h => by simp [zipD] at h
  | x :: xs, y :: ys, 0, z, h => by
    have e : PyData.tuple [x, y] = z := Option.some.inj h
    exact ⟨x, y, rfl, rfl, e.symm⟩
  | x :: xs, y :: ys, i + 1, z, h => by
    have h' : (zipD xs ys)[i]? = some z := h
    exact zipD_get (xs := xs) (ys := ys) (i := i) h'
theorem zipD_len : ∀ {xs ys : List PyData} {i : Nat}, (zipD xs ys).length ≤ i → xs.length ≤ i ∨ ys.length ≤ i
  | [], ys, i, h => .inl (Nat.zero_le _)
  | x :: xs, [], i, h => .inr (Nat.zero_le _)
  | x :: xs, y :: ys, 0, h => by
    have h' : (zipD xs ys).length + 1 ≤ 0 := h
    omega
  | x :: xs, y :: ys, i + 1, h => by
    have h' : (zipD xs ys).length + 1 ≤ i + 1 := h
    rcases zipD_len (xs := xs) (ys := ys) (i := i) (by omega) with q | q
    · exact .inl (Nat.succ_le_succ q)
    · exact .inr (Nat.succ_le_succ q)
theorem it_zip {W : Wd} {B : Bs} {H : Hp} {p q : Addr} {vs us : List V} {ds es : List PyData} (h : offs B H p = some (.lst vs)) (hd : DqAll W (offs B H) vs ds) (h' : offs B H q = some (.lst us)) (hd' : DqAll W (offs B H) us es) : ItOk W B (Itz W.K p q) (zipD ds es) H where
  go := fun i B' H' x e hx => by
    obtain ⟨x1, x2, g1, g2, rfl⟩ := zipD_get hx
    obtain ⟨v, a1, a2⟩ := DqAll_get (DqAll_mono e.offs hd) g1
    obtain ⟨u, b1, b2⟩ := DqAll_get (DqAll_mono e.offs hd') g2
    have l1 : SqL W.K H' p vs := SqL.of (offs_sub (e.offs _ _ h))
    have l2 : SqL W.K H' q us := SqL.of (offs_sub (e.offs _ _ h'))
    refine ⟨⟨vs, us, v, u, l1, l2, a1, b1⟩, ?_⟩
    rintro w H2 ⟨T, y1, y2, rfl, hT, rfl, c1, c2⟩
    have z1 := (c1 vs l1).symm.trans a1
    have z2 := (c2 us l2).symm.trans b1
    cases z1; cases z2
    exact new_tup e.ok hT (.cons a2 (.cons b2 .nil))
  stop := fun i B' H' e hx => ⟨vs, us, SqL.of (offs_sub (e.offs _ _ h)), SqL.of (offs_sub (e.offs _ _ h')), by rw [DqAll_len hd, DqAll_len hd']; exact zipD_len hx⟩
theorem it_zipT {W : Wd} {B : Bs} {H : Hp} {p q : Addr} {vs us : List V} {ds es : List PyData} (h : SqT W.K (offs B H) p vs) (hd : DqAll W (offs B H) vs ds) (h' : SqT W.K (offs B H) q us) (hd' : DqAll W (offs B H) us es) : ItOk W B (RZ.ItzT W.K p q) (zipD ds es) H where
  go := fun i B' H' x e hx => by
    obtain ⟨x1, x2, g1, g2, rfl⟩ := zipD_get hx
    obtain ⟨v, a1, a2⟩ := DqAll_get (DqAll_mono e.offs hd) g1
    obtain ⟨u, b1, b2⟩ := DqAll_get (DqAll_mono e.offs hd') g2
    have l1 : SqT W.K H' p vs := seqT_mono (fun a o q => offs_sub (e.offs a o q)) h
    have l2 : SqT W.K H' q us := seqT_mono (fun a o q => offs_sub (e.offs a o q)) h'
    refine ⟨⟨vs, us, v, u, l1, l2, a1, b1⟩, ?_⟩
    rintro w H2 ⟨T, y1, y2, rfl, hT, rfl, c1, c2⟩
    have z1 := (c1 vs l1).symm.trans a1
    have z2 := (c2 us l2).symm.trans b1
    cases z1; cases z2
    exact new_tup e.ok hT (.cons a2 (.cons b2 .nil))
  stop := fun i B' H' e hx => ⟨vs, us, seqT_mono (fun a o q => offs_sub (e.offs a o q)) h, seqT_mono (fun a o q => offs_sub (e.offs a o q)) h', by rw [DqAll_len hd, DqAll_len hd']; exact zipD_len hx⟩
def sZip : Sl → Sl → Fr (List PyData)
  | .d (.list xs), .d (.list ys) => .ret (zipD xs ys)
  | .d (.tuple xs), .d (.tuple ys) => .ret (zipD xs ys)
  | _, _ => .bad
theorem xi_zip {elts : List Expr} {kk : Nat} {tpos : Pos} (hm : X.mg "zip" = none) (ha : XE X Z a fa) (hb : XE X Z b fb) (hg : Gl X "zip" := by rfl) (hs : starEach [a, b] X.env = (false, eval a X.env) :: starEach [b] X.env := by rfl) (hs2 : starEach [b] X.env = (false, eval b X.env) :: starEach [] X.env := by rfl)
    (hpl : (backTo pos (starEach [b] X.env)).any (·.1) = false := by rfl) : XI X Z (.Tuple elts kk tpos) (.Call (.Name "zip" p) [a, b] [] pos) (fun ρ => (fa ρ).bind fun x => (fb ρ).bind fun y => sZip x y) :=
  (RZ.pi_zipA hg hm (pa_cons ha (pa_cons hb pa_nil hs2) hs) hs hpl).weak fun σ H R ⟨B, ρ, hR, hw⟩ =>
    d2 (R := fun v u H1 => ∃ a b xs ys, [v, u] = [.ref a, .ref b] ∧ ((SqL X.K H1 a xs ∧ SqL X.K H1 b ys ∧ R (Itz X.K a b) H1) ∨ (SqT X.K H1 a xs ∧ SqT X.K H1 b ys ∧ R (RZ.ItzT X.K a b) H1))) hR hw fun x y v u H1 e r1 r2 q => by
    unfold sZip at q
    split at q
    · cases r1 with
      | lst h t =>
      cases r2 with
      | lst h' t' => exact ⟨_, _, _, _, rfl, .inl ⟨SqL.of (offs_sub h), SqL.of (offs_sub h'), q _ H1 e (it_zip h t h' t')⟩⟩
    · cases r1 with
      | tup h t =>
      cases r2 with
      | tup h' t' => exact ⟨_, _, _, _, rfl, .inr ⟨SqT.of (offs_sub h), SqT.of (offs_sub h'), q _ H1 e (it_zipT (SqT.of h) t (SqT.of h') t')⟩⟩
    · exact q.elim
def enumD : Nat → List PyData → List PyData
  | _, [] => []
  | k, x :: xs => .tuple [.int k, x] :: enumD (k + 1) xs
theorem enumD_get : ∀ {xs : List PyData} {k i : Nat} {z : PyData}, (enumD k xs)[i]? = some z → ∃ x, xs[i]? = some x ∧ z = .tuple [.int ((k + i : Nat) : Int), x]
  | [], k, i, z, h => by simp [enumD] at h
  | x :: xs, k, 0, z, h => ⟨x, rfl, (Option.some.inj h).symm⟩
  | x :: xs, k, i + 1, z, h => by
    have h' : (enumD (k + 1) xs)[i]? = some z := h
    obtain ⟨y, h1, h2⟩ := enumD_get h'
    exact ⟨y, h1, by rw [h2, show k + 1 + i = k + (i + 1) by omega]⟩
theorem enumD_len : ∀ (k : Nat) (xs : List PyData), (enumD k xs).length = xs.length
  | _, [] => rfl
  | k, x :: xs => congrArg Nat.succ (enumD_len (k + 1) xs)
theorem it_enum {W : Wd} {B : Bs} {H : Hp} {p : Addr} {vs : List V} {ds : List PyData} (h : offs B H p = some (.lst vs)) (hd : DqAll W (offs B H) vs ds) : ItOk W B (Ite W.K p) (enumD 0 ds) H where
  go := fun i B' H' x e hx => by
    obtain ⟨x1, g1, rfl⟩ := enumD_get hx
    obtain ⟨v, a1, a2⟩ := DqAll_get (DqAll_mono e.offs hd) g1
    have l1 : SqL W.K H' p vs := SqL.of (offs_sub (e.offs _ _ h))
    refine ⟨⟨vs, v, l1, a1⟩, ?_⟩
    rintro w H2 ⟨T, y1, rfl, hT, rfl, c1⟩
    have z1 := (c1 vs l1).symm.trans a1
    cases z1
    rw [Nat.zero_add]
    exact new_tup e.ok hT (.cons (.int _) (.cons a2 .nil))
  stop := fun i B' H' e hx => ⟨vs, SqL.of (offs_sub (e.offs _ _ h)), by rw [DqAll_len hd, ← enumD_len 0 ds]; exact hx⟩
end
def forO (t : Tg) (gb : Rn → Fr Out) : List PyData → Rn → Fr Out
  | [], ρ => .ret (.nx ρ)
  | x :: xs, ρ => (ofO (setT t x ρ)).bind fun ρ1 => (gb ρ1).bind fun o => match o with
    | .nx ρ2 => forO t gb xs ρ2
    | .ct ρ2 => forO t gb xs ρ2
    | .bk ρ2 => .ret (.nx ρ2)
    | .rt s => .ret (.rt s)
    | .ex ρ2 x => .ret (.ex ρ2 x)
def gFor (fi : Rn → Fr (List PyData)) (t : Tg) (gb : Rn → Fr Out) : Rn → Fr Out := fun ρ => (fi ρ).bindX ρ fun xs => forO t gb xs ρ
theorem xs_for {X : Cx} {Z : WX} {tg iter : Expr} {body : List Stmt} {fi : Rn → Fr (List PyData)} {t : Tg} {gb : Rn → Fr Out} {pos : Pos} (hp : PassesOwn (model X.prog X.w) X.A X.env X.xe) (hc : X.calm = true) (hi : XI X Z tg iter fi) (hg : XG X tg t) (hb : XB X Z body gb)
    (hs : ∀ x, foldedSetIterable iter X.env x = pure x := by intro _; rfl) : XS X Z (.For tg iter body [] pos) (gFor fi t gb) := (ps_for hp hc hi hg hb hs).weak fun D σ H ⟨B, ρ, hR, hw⟩ =>
  ⟨B, ρ, hR, Fr.wpx_mono (fun _ z => okX_ee hR z) (fun xs q J H1 e0 it => by
    refine ⟨fun i m σ' H' => m = xs.length - i ∧ i ≤ xs.length ∧ ∃ B' ρ', ExS B H1 B' H' ∧ Rho X.wd B' H' σ' ρ' ∧ (forO t gb (xs.drop i) ρ').wp (okO X.wd Z B' H' D), ⟨xs.length, by simp, Nat.zero_le _, B, ρ, ExS.refl e0.ok, hR.mono e0, Fr.wp_mono (fun o h => okO.mono e0.toS o h) q⟩, ?_⟩
    rintro i m σ' H' ⟨rfl, hi, B', ρ', eS, R', w⟩
    by_cases hlt : i < xs.length
    · have hx : xs[i]? = some xs[i] := List.getElem?_eq_getElem hlt
      obtain ⟨g1, g2⟩ := it.go i B' H' _ eS.g hx
      refine .inr ⟨g1, fun σ2 H2 => i + 1 ≤ xs.length ∧ ∃ B2 ρ2, ExS B H1 B2 H2 ∧ Rho X.wd B2 H2 σ2 ρ2 ∧ (forO t gb (xs.drop (i + 1)) ρ2).wp (okO X.wd Z B2 H2 D), fun σ2 H2 n2 => ⟨xs.length - (i + 1), by omega, rfl, n2⟩, fun v H2 y => ?_⟩
      obtain ⟨e2, r2⟩ := g2 v H2 y
      rw [List.drop_eq_getElem_cons hlt] at w
      obtain ⟨ρ1, e1, w⟩ := wp_ofO (Fr.wpx_bind.mp w)
      refine tg_ok (R'.mono e2) r2 e1 fun B3 σ3 ex3 R3 _ => ⟨B3, ρ1, R3, Fr.wp_mono (fun o q => ?_) (Fr.wp_bind.mp w)⟩
      have e23 : ExS B' H' B3 H2 := e2.toS.trans ex3.toExS
      have go : ∀ ρ4, (forO t gb (xs.drop (i + 1)) ρ4).wp (okO X.wd Z B' H' D) → ∀ B4 σ4 H4, ExS B3 H2 B4 H4 → Rho X.wd B4 H4 σ4 ρ4 → i + 1 ≤ xs.length ∧ ∃ B2 ρ2, ExS B H1 B2 H4 ∧ Rho X.wd B2 H4 σ4 ρ2 ∧ (forO t gb (xs.drop (i + 1)) ρ2).wp (okO X.wd Z B2 H4 D) :=
        fun ρ4 w4 B4 σ4 H4 e4 R4 => ⟨hlt, B4, ρ4, eS.trans (e23.trans e4), R4, Fr.wp_mono (fun o h => okO.mono (e23.trans e4) o h) w4⟩
      cases o with
      | nx ρ4 => exact fun B4 σ4 H4 e4 R4 => go ρ4 q B4 σ4 H4 e4 R4
      | ct ρ4 => exact fun B4 σ4 H4 e4 R4 => go ρ4 q B4 σ4 H4 e4 R4
      | bk ρ4 => exact fun B4 σ4 H4 e4 R4 => q B4 σ4 H4 (e23.trans e4) R4
      | rt s => exact fun B4 v4 H4 e4 r4 => q B4 v4 H4 (e23.trans e4) r4
      | ex ρ4 x => exact fun B4 σ4 H4 cls d e4 R4 rx => q B4 σ4 H4 cls d (e23.trans e4) R4 rx
    · have hi' : i = xs.length := by omega
      subst hi'
      rw [List.drop_length] at w
      exact .inl ⟨it.stop _ B' H' eS.g (Nat.le_refl _), w B' σ' H' (ExS.refl R'.ok) R'⟩) (wp_bindX hw)⟩
end TM
namespace TM
open PySem PySem.Spec PyProof.Rows L2
open Classical in
noncomputable def offx (fp : List Addr) (H : Hp) : Hp := fun a => if a ∈ fp then none else H a
theorem offx_some {fp : List Addr} {H : Hp} {a : Addr} {o : HO} (h : offx fp H a = some o) : H a = some o ∧ a ∉ fp := by
  unfold offx at h
  split at h
  · cases h
  · exact ⟨h, ‹_›⟩
theorem offx_at {fp : List Addr} {H : Hp} {a : Addr} {o : HO} (h : H a = some o) (n : a ∉ fp) : offx fp H a = some o := by
  unfold offx
  rw [if_neg n]
  exact h
/-- slot i holds what stands at fp -/
def addO (B : Bs) (i : Nat) (fp : List Addr) : Bs := ⟨B.bag, B.cel, fun a => B.hid a ∨ a ∈ B.own i, fun j => if j = i then fp else B.own j, B.tab⟩
section
variable {W : Wd} {B : Bs} {H H' : Hp} {σ : L2.St} {ρ : Rn} {fp : List Addr} {i : Nat} {s : Sh} {v : V} {x : PyData}
theorem addO_off (a : Addr) : (addO B i fp).off a ↔ B.off a ∨ a ∈ fp := by
  constructor
  · rintro (h | (h | h) | ⟨j, h⟩)
    · exact .inl (.inl h)
    · exact .inl (.inr (.inl h))
    · exact .inl (.inr (.inr ⟨i, h⟩))
    · by_cases q : j = i
      · rw [show (addO B i fp).own j = fp from if_pos q] at h
        exact .inr h
      · rw [show (addO B i fp).own j = B.own j from if_neg q] at h
        exact .inl (.inr (.inr ⟨j, h⟩))
  · rintro ((h | h | ⟨j, h⟩) | h)
    · exact .inl h
    · exact .inr (.inl (.inl h))
    · by_cases q : j = i
      · rw [q] at h
        exact .inr (.inl (.inr h))
      · exact .inr (.inr ⟨j, by rw [show (addO B i fp).own j = B.own j from if_neg q]; exact h⟩)
    · exact .inr (.inr ⟨i, by rw [show (addO B i fp).own i = fp from if_pos rfl]; exact h⟩)
theorem offs_off {a : Addr} (h : B.off a) : offs B H a = none := by
  unfold offs
  rw [if_pos h]
theorem offs_on {a : Addr} (h : ¬ B.off a) : offs B H a = H a := by
  unfold offs
  rw [if_neg h]
theorem addO_offs : offs (addO B i fp) H = offx fp (offs B H) := by
  funext a
  by_cases q : a ∈ fp
  · rw [offs_off ((addO_off a).mpr (.inr q))]
    unfold offx
    rw [if_pos q]
  · have e : offx fp (offs B H) a = offs B H a := by
      unfold offx
      rw [if_neg q]
    rw [e]
    by_cases q2 : B.off a
    · rw [offs_off q2, offs_off ((addO_off a).mpr (.inl q2))]
    · rw [offs_on q2, offs_on fun z => ((addO_off a).mp z).elim q2 q]
theorem addO_ok (ok : Bok B H') (nd : fp.Nodup) (hn : ∀ a ∈ fp, ¬ B.off a) (hs : ∀ a ∈ fp, H' a ≠ none) (hcd : ∀ a ∈ fp, NoCode H' a) (hc : ∀ b, B.bag = some b → B.cel ∉ fp) : Bok (addO B i fp) H' := by
  have own : ∀ j, (addO B i fp).own j = if j = i then fp else B.own j := fun j => rfl
  refine ⟨ok.bag, fun b hb j => ?_, fun a ha => ha.elim (ok.hid a) (ok.own i a), fun j a ha => ?_, fun j => ?_, fun j k a hjk h1 h2 => ?_, fun j a ha hh => ?_, ok.tab, fun a ha => ⟨fun j z => by rw [own j] at z; split at z <;> first | exact hn a z (.inl (.inr ha)) | exact (ok.ntab a ha).1 j z, fun z => z.elim (ok.ntab a ha).2 ((ok.ntab a ha).1 i)⟩, fun c q h => ⟨fun j z => by rw [own j] at z; split at z <;> first | exact (hcd c z c q h).elim | exact (ok.cod c q h).1 j z, fun z => z.elim (ok.cod c q h).2 ((ok.cod c q h).1 i)⟩⟩
  · rw [own j]
    split
    · exact ⟨fun z => hn b z (.inl (.inl hb)), hc b hb⟩
    · exact ok.nown b hb j
  · rw [own j] at ha
    split at ha
    · exact hs a ha
    · exact ok.own j a ha
  · rw [own j]
    split
    · exact nd
    · exact ok.nd j
  · rw [own j] at h1
    rw [own k] at h2
    split at h1
    · rename_i q1
      rw [if_neg (fun z => hjk (q1.trans z.symm))] at h2
      exact hn a h1 (.inr (.inr ⟨k, h2⟩))
    · split at h2
      · exact hn a h2 (.inr (.inr ⟨j, h1⟩))
      · exact ok.apart j k a hjk h1 h2
  · rw [own j] at ha
    split at ha
    · rcases hh with hh | hh
      · exact hn a ha (.inr (.inl hh))
      · exact hn a ha (.inr (.inr ⟨i, hh⟩))
    · rename_i q
      rcases hh with hh | hh
      · exact ok.nh j a ha hh
      · exact ok.apart j i a q ha hh
mutual
theorem Ow.fpS {Hd : Hp} : ∀ {s : Sh} {v : V} {x : PyData} {fp : List Addr}, Ow W Hd H s v x fp → ∀ a ∈ fp, H a ≠ none
  | _, _, _, _, .d _ => fun a ha => nomatch ha
  | _, _, _, _, .l h t => fun a ha => by
    rcases List.mem_cons.mp ha with q | q
    · rw [q, h]; exact fun z => nomatch z
    · exact OwAll.fpS t a q
  | _, _, _, _, .p _ _ t => Ow.fpS t
  | _, _, _, _, .i h _ _ => fun a ha => by rw [List.mem_singleton.mp ha, h]; exact fun z => nomatch z
  | _, _, _, _, .k h _ => fun a ha => by rw [List.mem_singleton.mp ha, h]; exact fun z => nomatch z
  | _, _, _, _, .t h _ => fun a ha => by rw [List.mem_singleton.mp ha, h]; exact fun z => nomatch z
theorem OwAll.fpS {Hd : Hp} : ∀ {s : Sh} {vs : List V} {xs : List PyData} {fp : List Addr}, OwAll W Hd H s vs xs fp → ∀ a ∈ fp, H a ≠ none
  | _, _, _, _, .nil => fun a ha => nomatch ha
  | _, _, _, _, .cons h t => fun a ha => by
    rcases List.mem_append.mp ha with q | q
    · exact Ow.fpS h a q
    · exact OwAll.fpS t a q
end
mutual
theorem Ow.fpC {Hd : Hp} : ∀ {s : Sh} {v : V} {x : PyData} {fp : List Addr}, Ow W Hd H s v x fp → ∀ a ∈ fp, NoCode H a
  | _, _, _, _, .d _ => fun a ha => nomatch ha
  | _, _, _, _, .l h t => fun a ha => by
    rcases List.mem_cons.mp ha with q | q
    · rw [q]; exact noCode h code_lst
    · exact OwAll.fpC t a q
  | _, _, _, _, .p _ _ t => Ow.fpC t
  | _, _, _, _, .i h _ _ => fun a ha => by rw [List.mem_singleton.mp ha]; exact noCode h code_ins
  | _, _, _, _, .k h _ => fun a ha => by rw [List.mem_singleton.mp ha]; exact noCode h code_dK
  | _, _, _, _, .t h _ => fun a ha => by rw [List.mem_singleton.mp ha]; exact noCode h code_dT
theorem OwAll.fpC {Hd : Hp} : ∀ {s : Sh} {vs : List V} {xs : List PyData} {fp : List Addr}, OwAll W Hd H s vs xs fp → ∀ a ∈ fp, NoCode H a
  | _, _, _, _, .nil => fun a ha => nomatch ha
  | _, _, _, _, .cons h t => fun a ha => by
    rcases List.mem_append.mp ha with q | q
    · exact Ow.fpC h a q
    · exact OwAll.fpC t a q
end
theorem nodup1 {a : Addr} : [a].Nodup := List.nodup_cons.mpr ⟨fun z => (by cases z), List.nodup_nil⟩
/-- what is fresh at H: it stood nowhere -/
theorem fresh_off (ok : Bok B H) (hf : ∀ a ∈ fp, H a = none) : ∀ a ∈ fp, ¬ B.off a := fun a ha => ok.free (hf a ha)
theorem fresh_cel (ok : Bok B H) (hf : ∀ a ∈ fp, H a = none) : ∀ b, B.bag = some b → B.cel ∉ fp := fun b hb z => by
  obtain ⟨_, _, _, _, _, _, hc, _⟩ := ok.bag b hb
  rw [hf _ z] at hc
  cases hc
theorem addO_exs (e : Ext B H H') (ok : Bok B H) (hf : ∀ a ∈ fp, H a = none) (okA : Bok (addO B i fp) H') : ExS B H (addO B i fp) H' :=
  ⟨rfl, rfl, rfl, fun a h => h.imp id .inl, fun a h => ((addO_off a).mp h).imp id (hf a), fun j a h => by
    have own : (addO B i fp).own j = if j = i then fp else B.own j := rfl
    rw [own] at h
    split at h
    · exact .inr (hf a h)
    · exact .inl ⟨j, h⟩, fun a o h1 _ h => e.same a o h1 h, okA⟩
theorem RdI.add {j : Nat} {v : V} {s : Sl} (hij : j ≠ i) (hf : ∀ a ∈ fp, H a = none) (e : Ext B H H') (ok : Bok B H) (h : RdI W B H j v s) : RdI W (addO B i fp) H' j v s := by
  have ho : ∀ a o, offs B H a = some o → offs (addO B i fp) H' a = some o := fun a o q => by
    rw [addO_offs]
    refine offx_at (e.offs a o q) fun z => ?_
    have := offs_sub q
    rw [hf a z] at this
    cases this
  cases s with
  | d x => exact Dq_mono ho h
  | own sh x =>
    show Ow W (offs (addO B i fp) H') H' sh v x ((addO B i fp).own j)
    rw [show (addO B i fp).own j = B.own j from if_neg hij]
    exact Ow_mono ho (fun a ha o q => e.same a o (fun z => ok.mv_own z j ha) q) h
  | bag => exact h
  | kp _ _ => exact RdI.fmono (W := W) isFn h ho rfl
  | tb _ _ => exact h
theorem Rho.new (r : Rho W B H σ ρ) (e : Ext B H H') (hf : ∀ a ∈ fp, H a = none) (nd : fp.Nodup) (h : Ow W (offx fp (offs B H')) H' s v x fp) (i : Nat) : Rho W (addO B i fp) H' (σ.set i (some v)) (ρ.set i (some (.own s x))) ∧ ExS B H (addO B i fp) H' := by
  have okA : Bok (addO B i fp) H' := addO_ok e.ok nd (fresh_off r.ok hf) h.fpS h.fpC (fresh_cel r.ok hf)
  refine ⟨⟨okA, by rw [List.length_set, List.length_set]; exact r.len, fun j s' ej => ?_⟩, addO_exs e r.ok hf okA⟩
  have hl : j < σ.length := by
    have := (List.getElem?_eq_some_iff.mp ej).1
    rw [List.length_set, r.len] at this
    exact this
  rcases get_set_ne ej with ⟨q1, q2⟩ | ⟨q1, q2⟩
  · cases q2
    subst q1
    refine ⟨v, List.getElem?_set_self hl, ?_⟩
    show Ow W (offs (addO B i fp) H') H' s v x ((addO B i fp).own i)
    rw [addO_offs, show (addO B i fp).own i = fp from if_pos rfl]
    exact h
  · obtain ⟨w, h1, h2⟩ := r.get j s' q2
    exact ⟨w, by rw [List.getElem?_set_ne q1]; exact h1, h2.add (Ne.symm q1) hf e r.ok⟩
end
theorem Ext.old {B : Bs} {H H' : Hp} (e : Ext B H H') {p : Addr} (hp : H' p = none) : H p = none := by
  cases z : H p with
  | none => rfl
  | some u =>
    by_cases qb : B.mv p
    · obtain ⟨_, hb⟩ := e.ok.at_mv qb
      rw [hb] at hp
      cases hp
    · rw [e.same p u qb z] at hp
      cases hp
/-- a fresh thing, built as s tells -/
def KF (W : Wd) (B : Bs) (H : Hp) (s : Sh) (Q : VK) : PyData → Prop := fun x => ∀ v H' fp, Ext B H H' → (∀ a ∈ fp, H a = none) → fp.Nodup → Ow W (offx fp (offs B H')) H' s v x fp → Q v H'
def tF (W : Wd) (Z : WX) (s : Sh) (f : Rn → Fr PyData) : TE := fun σ H Q => ∃ B ρ, Rho W B H σ ρ ∧ (f ρ).wpx (EE W Z B H σ) (KF W B H s Q)
abbrev XF (X : Cx) (Z : WX) (e : Expr) (s : Sh) (f : Rn → Fr PyData) : Prop := PE X e (tF X.wd Z s f)
theorem KF.mono {W : Wd} {B : Bs} {H H' : Hp} {s : Sh} {Q : VK} (ok : Bok B H) (e : Ext B H H') {x : PyData} (h : KF W B H s Q x) : KF W B H' s Q x := fun v H2 fp e2 hf nd o => h v H2 fp (e.trans e2) (fun a ha => e.old (hf a ha)) nd o
theorem offx_nil {H : Hp} : offx [] H = H := by
  funext a
  unfold offx
  rw [if_neg (fun z => nomatch z)]
section
variable {X : Cx} {Z : WX} {e : Expr} {fa : Rn → Fr Sl} {ff : Rn → Fr PyData} {s : Sh} {pos : Pos}
/-- data as a fresh thing of shape d -/
def fD (fa : Rn → Fr Sl) : Rn → Fr PyData := fun ρ => (fa ρ).bind toD
theorem xf_d (h : XE X Z e fa) : XF X Z e .d (fD fa) := h.weak fun σ H Q ⟨B, ρ, hR, hw⟩ => ⟨B, ρ, hR, Fr.wpx_mono (fun _ z => z) (fun s q v H' e r => by
  obtain ⟨d, rfl, q⟩ := wp_toD q
  exact q v H' [] e (fun a ha => nomatch ha) List.nodup_nil (by rw [offx_nil]; exact .d r)) (Fr.wpx_bind.mp hw)⟩
variable {es : List Expr} {fr : Rn → Fr (List Sl)}
end
end TM
namespace TM
open PySem PySem.Spec PyProof.Rows L2
theorem wipe_none : ∀ (vs : List Nat) (σ : L2.St) (i : Nat), i ∈ vs → i < σ.length → (wipe σ vs)[i]? = some none
  | [], _, _, h, _ => by cases h
  | v :: vs, σ, i, h, hl => by
    show ((wipe σ vs).set v none)[i]? = some none
    by_cases hv : v = i
    · subst hv
      exact List.getElem?_set_self (by rw [wipe_length]; exact hl)
    · rw [List.getElem?_set_ne hv]
      rcases List.mem_cons.mp h with h | h
      · exact absurd h.symm hv
      · exact wipe_none vs σ i h hl
theorem set_same {α : Type} {l : List α} {i : Nat} {x : α} (h : l[i]? = some x) : l.set i x = l := by
  obtain ⟨h1, h2⟩ := List.getElem?_eq_some_iff.mp h
  rw [← h2]
  exact List.set_getElem_self h1
theorem wipe_wipe (σ : L2.St) (vs : List Nat) : wipe (wipe σ vs) vs = wipe σ vs := by
  have aux : ∀ us : List Nat, (∀ i ∈ us, i ∈ vs) → wipe (wipe σ vs) us = wipe σ vs := by
    intro us
    induction us with
    | nil => intro _; rfl
    | cons u us ih =>
      intro h
      show (wipe (wipe σ vs) us).set u none = wipe σ vs
      rw [ih fun i hi => h i (List.mem_cons_of_mem _ hi)]
      by_cases hu : u < σ.length
      · exact set_same (wipe_none vs σ u (h u List.mem_cons_self) hu)
      · exact List.set_eq_of_length_le (by rw [wipe_length]; omega)
  exact aux vs fun _ h => h
def lcGo (t : Tg) (ρ0 : Rn) (ft : Rn → Fr Bool) (fe : Rn → Fr PyData) : List PyData → Fr (List PyData)
  | [] => .ret []
  | x :: xs => (ofO (setT t x ρ0)).bind fun ρ1 => (ft ρ1).noX.bind fun b => if b = true then (fe ρ1).noX.bind fun d => (lcGo t ρ0 ft fe xs).bind fun ds => .ret (d :: ds) else lcGo t ρ0 ft fe xs
def fLcF (fi : Rn → Fr (List PyData)) (t : Tg) (vs : List Nat) (ft : Rn → Fr Bool) (fe : Rn → Fr PyData) : Rn → Fr PyData := fun ρ => (fi ρ).bind fun xs => (line xs.length).bind fun _ => (lcGo t (wipeR ρ vs) ft fe xs).bind fun ds => .ret (.list ds)
def fLc (fi : Rn → Fr (List PyData)) (t : Tg) (vs : List Nat) (ft : Rn → Fr Bool) (fe : Rn → Fr Sl) : Rn → Fr Sl := fun ρ => (fLcF fi t vs ft (fD fe) ρ).bind fun x => .ret (.d x)
def hideF (B : Bs) (fp : List Addr) : Bs := ⟨B.bag, B.cel, fun a => B.hid a ∨ a ∈ fp, B.own, B.tab⟩
section
variable {W : Wd} {B : Bs} {H H1 H' : Hp} {σ : L2.St} {ρ : Rn} {F : List Addr}
theorem hideF_off (a : Addr) : (hideF B F).off a ↔ B.off a ∨ a ∈ F := by
  constructor
  · rintro (h | (h | h) | h)
    · exact .inl (.inl h)
    · exact .inl (.inr (.inl h))
    · exact .inr h
    · exact .inl (.inr (.inr h))
  · rintro ((h | h | h) | h)
    · exact .inl h
    · exact .inr (.inl (.inl h))
    · exact .inr (.inr h)
    · exact .inr (.inl (.inr h))
theorem dropOs_off (vs : List Nat) (a : Addr) : (dropOs B vs).off a ↔ B.off a := by
  induction vs with
  | nil => exact Iff.rfl
  | cons v vs ih => exact (dropO_off a).trans ih
theorem Bok.ext0 (ok : Bok B H1) (sm : ∀ a o, ¬ B.mv a → H1 a = some o → H' a = some o) (bg : Mvo B H') : Bok B H' := by
  have keep : ∀ a, H1 a ≠ none → H' a ≠ none := fun a h => by
    by_cases qb : B.mv a
    · obtain ⟨_, hb⟩ := bg.at_mv qb
      rw [hb]
      exact fun z => nomatch z
    · cases q : H1 a with
      | none => exact absurd q h
      | some o => rw [sm a o qb q]; exact fun z => nomatch z
  refine ⟨bg.bag, ok.nown, fun a ha => keep a (ok.hid a ha), fun i a ha => keep a (ok.own i a ha), ok.nd, ok.apart, ok.nh, bg.tab, ok.ntab, fun c q z => ?_⟩
  by_cases hm : B.mv c
  · exact (bg.no_hard hm c q z).elim
  · cases e : H1 c with
    | none => exact ⟨fun i w => ok.own i c w e, fun w => ok.hid c w e⟩
    | some o =>
      rw [sm c o hm e] at z
      cases z
      exact ok.cod c q e
theorem hideF_ok (ok : Bok B H1) (hf : ∀ a ∈ F, H1 a ≠ none) (hn : ∀ a ∈ F, ¬ B.off a) (hcd : ∀ a ∈ F, NoCode H1 a) : Bok (hideF B F) H1 := ⟨ok.bag, ok.nown, fun a ha => ha.elim (ok.hid a) (hf a), ok.own, ok.nd, ok.apart, fun i a ha hh => hh.elim (ok.nh i a ha) fun z => hn a z (.inr (.inr ⟨i, ha⟩)), ok.tab, fun a ha => ⟨(ok.ntab a ha).1, fun z => z.elim (ok.ntab a ha).2 fun z => hn a z (.inl (.inr ha))⟩, fun c q h => ⟨(ok.cod c q h).1, fun z => z.elim (ok.cod c q h).2 fun z => (hcd c z c q h).elim⟩⟩
theorem offs_hideF (hF : ∀ a ∈ F, H1 a = none) (sm : ∀ a o, ¬ B.mv a → H1 a = some o → H' a = some o) : ∀ a o, offs B H1 a = some o → offs (hideF B F) H' a = some o := fun a o h => by
  obtain ⟨h0, h1⟩ := offs_some h
  refine offs_at (sm a o (off_bag h1) h0) fun z => ?_
  rcases (hideF_off a).mp z with z | z
  · exact h1 z
  · rw [hF a z] at h0
    cases h0
theorem Rho.hide (r : Rho W B H1 σ ρ) (hF : ∀ a ∈ F, H1 a = none) (sm : ∀ a o, ¬ B.mv a → H1 a = some o → H' a = some o) (ok : Bok (hideF B F) H') : Rho W (hideF B F) H' σ ρ :=
  ⟨ok, r.len, fun i s h => by
    obtain ⟨v, h1, h2⟩ := r.get i s h
    refine ⟨v, h1, ?_⟩
    cases s with
    | d x => exact Dq_mono (offs_hideF hF sm) h2
    | own sh x => exact Ow_mono (offs_hideF hF sm) (fun a ha o q => sm a o (fun z => r.ok.mv_own z i ha) q) h2
    | bag => exact h2
    | kp _ _ => exact RdI.fmono (W := W) isFn h2 (offs_hideF hF sm) rfl
    | tb _ _ => exact h2⟩
end
/-- no error leaves a comprehension -/
abbrev Z0 : WX := fun _ _ _ _ => False
theorem lc_body {W : Wd} {Z : WX} {B : Bs} {H H1 : Hp} {σ : L2.St} {ρ : Rn} {J : It} {xs : List PyData} {t : Tg} {vs : List Nat} {ft : Rn → Fr Bool} {fe : Rn → Fr PyData} {s : Sh} {Q : VK} (hR : Rho W B H σ ρ) (e0 : Ext B H H1) (it : ItOk W B J xs H1)
    (q : ((line xs.length).bind fun _ => (lcGo t (wipeR ρ vs) ft fe xs).bind fun ds => Fr.ret (PyData.list ds)).wpx (EE W Z B H σ) (KF W B H (.l s) Q)) (hsl : ∀ i ∈ t.slots, i ∈ vs) :
    tLc (fun _ _ R => R J H1) (TgR W.K t) (tDT W Z0 ft) (tF W Z0 s fe) vs σ H Q := by
  intro D hD
  obtain ⟨hz, q⟩ := wp_line (Fr.wpx_bind.mp q)
  have q := Fr.wpx_bind.mp q
  have ok1 : Bok B H1 := e0.ok
  have nD := ok1.free hD
  let Iv : Nat → Hp → Prop := fun i H' => i ≤ xs.length ∧ ∃ (acc : List V) (ds0 : List PyData) (fp : List Addr), acc.length ≤ i ∧ (∀ a o, ¬ B.mv a → H1 a = some o → H' a = some o) ∧ Mvo B H' ∧ H' D = some (.lst acc) ∧
      (D :: fp).Nodup ∧ (∀ a ∈ fp, H1 a = none) ∧ OwAll W (offs (hideF B (D :: fp)) H') H' s acc ds0 fp ∧ (lcGo t (wipeR ρ vs) ft fe (xs.drop i)).wpx (EE W Z B H σ) (fun ds => KF W B H (.l s) Q (.list (ds0 ++ ds)))
  refine ⟨fun i m H' => m = xs.length - i ∧ Iv i H', ⟨xs.length, by simp, Nat.zero_le _, [], [], [], Nat.le_refl _, fun a o _ h => by rw [upd_ne (ne_of_none h hD)]; exact h, (ok1.upd hD).mvo, upd_same, nodup1, (fun a ha => nomatch ha), .nil, q⟩, ?_⟩
  rintro i m H' ⟨rfl, hi, acc, ds0, fp, hl, sm, bg, hacc, nd, hfp, hd, w⟩
  have hF : ∀ a ∈ D :: fp, H1 a = none := fun a ha => by
    rcases List.mem_cons.mp ha with z | z
    · rw [z]; exact hD
    · exact hfp a z
  have hF' : ∀ a ∈ D :: fp, H' a ≠ none := fun a ha => by
    rcases List.mem_cons.mp ha with z | z
    · rw [z, hacc]; exact fun z => nomatch z
    · exact hd.fpS a z
  have okB : Bok B H' := ok1.ext0 sm bg
  have okF : Bok (hideF B (D :: fp)) H' := hideF_ok okB hF' (fun a ha => ok1.free (hF a ha)) fun a ha => by
    rcases List.mem_cons.mp ha with z | z
    · rw [z]; exact noCode hacc code_lst
    · exact hd.fpC a z
  have eG : ExG B H1 (hideF B (D :: fp)) H' := ⟨rfl, fun a ha => ((hideF_off a).mp ha).imp id (hF a), fun a o h1 h => sm a o (off_bag h1) h, okF⟩
  by_cases hlt : i < xs.length
  · obtain ⟨g1, g2⟩ := it.go i (hideF B (D :: fp)) H' _ eG (List.getElem?_eq_getElem hlt)
    rw [List.drop_eq_getElem_cons hlt] at w
    obtain ⟨ρ1, e1, w⟩ := wp_ofO (Fr.wpx_bind.mp w)
    refine .inr ⟨g1, fun H2 => Iv (i + 1) H2, fun H2 n2 => ⟨xs.length - (i + 1), by omega, rfl, n2⟩, fun v H2 y => ?_⟩
    obtain ⟨e2, r2⟩ := g2 v H2 y
    have sm2 : ∀ a o, ¬ B.mv a → H1 a = some o → H2 a = some o := fun a o h1 h => e2.same a o h1 (sm a o h1 h)
    have R2 : Rho W (hideF B (D :: fp)) H2 σ ρ := (hR.mono e0).hide hF sm2 e2.ok
    have r2' : RdS W (dropOs (hideF B (D :: fp)) vs) H2 v (.d xs[i]) := by
      show Dq W (offs (dropOs (hideF B (D :: fp)) vs) H2) v _
      rw [offs_congr (dropOs_off vs)]
      exact r2
    refine tg_ok (R2.wipe vs) r2' e1 fun B3 σ3 ex3 R3 w3 => ⟨by rw [w3 vs hsl, wipe_wipe], B3, ρ1, R3, Fr.wpx_mono (fun _ z => z.elim) (fun b q H3 e3 => ?_) (Fr.wp_noX (Fr.wpx_bind.mp w))⟩
    have b3 : B3.bag = B.bag := ex3.bag.trans (by
      have : ∀ us : List Nat, (dropOs (hideF B (D :: fp)) us).bag = B.bag := fun us => by
        induction us with
        | nil => rfl
        | cons u us ih => exact ih
      exact this vs)
    have c3 : B3.cel = B.cel := ex3.cel.trans (by
      have : ∀ us : List Nat, (dropOs (hideF B (D :: fp)) us).cel = B.cel := fun us => by
        induction us with
        | nil => rfl
        | cons u us ih => exact ih
      exact this vs)
    have t3 : B3.tab = B.tab := ex3.tab.trans (by
      have : ∀ us : List Nat, (dropOs (hideF B (D :: fp)) us).tab = B.tab := fun us => by
        induction us with
        | nil => rfl
        | cons u us ih => exact ih
      exact this vs)
    have sub3 : ∀ a, (hideF B (D :: fp)).off a → B3.off a := fun a h => ex3.all a ((dropOs_off vs a).mpr h)
    have sm23 : ∀ a o, ¬ B.mv a → H' a = some o → H3 a = some o := fun a o h1 h => e3.same a o (fun z => h1 ((mv_of b3 t3).mp z)) (e2.same a o h1 h)
    have nbD : ∀ a ∈ D :: fp, ¬ B.mv a := fun a ha => off_bag (ok1.free (hF a ha))
    have bg3 : Mvo B H3 := e3.ok.mvo.of b3 c3 t3
    have accD : ∀ {H4 : Hp}, (∀ a o, ¬ B.mv a → H' a = some o → H4 a = some o) → ∀ {F4 : List Addr}, (∀ a ∈ F4, a ∈ D :: fp ∨ H' a = none) → OwAll W (offs (hideF B F4) H4) H4 s acc ds0 fp := fun {H4} sm4 {F4} hF4 =>
      OwAll_mono (fun a o h => by
        obtain ⟨h0, h1⟩ := offs_some h
        refine offs_at (sm4 a o (off_bag (B := hideF B (D :: fp)) h1) h0) fun z => ?_
        rcases (hideF_off a).mp z with z | z
        · exact h1 ((hideF_off a).mpr (.inl z))
        · rcases hF4 a z with z | z
          · exact h1 ((hideF_off a).mpr (.inr z))
          · rw [z] at h0
            cases h0) (fun a ha o h => sm4 a o (nbD a (List.mem_cons_of_mem _ ha)) h) hd
    cases b with
    | false =>
      exact ⟨hlt, acc, ds0, fp, by omega, fun a o h1 h => sm23 a o h1 (sm a o h1 h), bg3, sm23 D _ (nbD D List.mem_cons_self) hacc, nd, hfp, accD sm23 (fun a ha => .inl ha), q⟩
    | true =>
      refine ⟨B3, ρ1, R3.mono e3, Fr.wpx_mono (fun _ z => z.elim) (fun d q v4 H4 fp4 e4 hf4 nd4 o4 => ?_) (Fr.wp_noX (Fr.wpx_bind.mp q))⟩
      have sm4 : ∀ a o, ¬ B.mv a → H' a = some o → H4 a = some o := fun a o h1 h => e4.same a o (fun z => h1 ((mv_of b3 t3).mp z)) (sm23 a o h1 h)
      have n4 : ∀ a ∈ fp4, H' a = none := fun a ha => by
        cases z : H' a with
        | none => rfl
        | some u =>
          by_cases qb : B.mv a
          · obtain ⟨_, hb⟩ := bg3.at_mv qb
            rw [hf4 a ha] at hb
            cases hb
          · have := sm23 a u qb z
            rw [hf4 a ha] at this
            cases this
      have n4' : ∀ a ∈ fp4, H1 a = none := fun a ha => by
        cases z : H1 a with
        | none => rfl
        | some u =>
          by_cases qb : B.mv a
          · obtain ⟨_, hb⟩ := bg3.at_mv qb
            rw [hf4 a ha] at hb
            cases hb
          · have := sm a u qb z
            rw [n4 a ha] at this
            cases this
      have hacc4 : H4 D = some (.lst acc) := sm4 D _ (nbD D List.mem_cons_self) hacc
      have nD4 : D ∉ fp4 := fun z => by
        have := n4 D z
        rw [hacc] at this
        cases this
      have nf4 : ∀ a ∈ fp, a ∉ fp4 := fun a ha z => hd.fpS a ha (n4 a z)
      have bg4 : Mvo B H4 := e4.ok.mvo.of b3 c3 t3
      have up : ∀ a o, a ≠ D → H4 a = some o → upd H4 D (.lst (acc ++ [v4])) a = some o := fun a o h1 h => by rw [upd_ne h1]; exact h
      have nT : ∀ a xs, SqT W.K H4 a xs → SqT W.K (upd H4 D (.lst (acc ++ [v4]))) a xs := fun a xs h => by
        refine tupS (fun a xs h => up a _ (fun z => ?_) h) (fun a o xs h => up a _ (fun z => ?_) h) h
        · rw [z, hacc4] at h; cases h
        · rw [z, hacc4] at h; cases h
      have offU : ∀ a o, offs (hideF B (D :: (fp ++ fp4))) H4 a = some o → offs (hideF B (D :: (fp ++ fp4))) (upd H4 D (.lst (acc ++ [v4]))) a = some o := fun a o h => by
        obtain ⟨h0, h1⟩ := offs_some h
        exact offs_at (up a o (fun z => h1 ((hideF_off a).mpr (.inr (by rw [z]; exact List.mem_cons_self)))) h0) h1
      refine ⟨acc, hacc4, by omega, hlt, acc ++ [v4], ds0 ++ [d], fp ++ fp4, by rw [List.length_append]; show acc.length + 1 ≤ i + 1; omega, fun a o h1 h => by rw [upd_ne (ne_of_none h hD)]; exact sm4 a o h1 (sm a o h1 h), ⟨fun b hb => ?_, fun a q ha => ?_⟩, upd_same, ?_, fun a ha => ?_, ?_, ?_⟩
      · obtain ⟨cs, i', r, m, n, h1, h2, h3⟩ := bg4.bag b hb
        obtain ⟨_, _, _, _, _, k1, k2, _⟩ := ok1.bag b hb
        exact ⟨cs, i', r, m, n, by rw [upd_ne (ne_of_none k1 hD)]; exact h1, by rw [upd_ne (ne_of_none k2 hD)]; exact h2, h3⟩
      · obtain ⟨_, k1, _⟩ := ok1.tab a q ha
        exact (bg4.tab a q ha).up (fun _ z => by rw [upd_ne (ne_of_none k1 hD)]; exact z) fun c z => by rw [upd_ne fun y => noCode hacc4 code_lst c (hcod c q) (by rw [← y]; exact z)]; exact z
      · obtain ⟨nd1, nd2⟩ := List.nodup_cons.mp nd
        refine List.nodup_cons.mpr ⟨fun z => (List.mem_append.mp z).elim nd1 nD4, List.nodup_append.mpr ⟨nd2, nd4, fun a ha b hb z => nf4 a ha (by rw [z]; exact hb)⟩⟩
      · exact (List.mem_append.mp ha).elim (hfp a) (n4' a)
      · refine OwAll.app (OwAll_mono offU (fun a ha o h => up a o (fun z => ?_) h) (accD sm4 fun a ha => ?_)) ?_
        · rw [z] at ha
          exact (List.nodup_cons.mp nd).1 ha
        · rcases List.mem_cons.mp ha with z | z
          · exact .inl (by rw [z]; exact List.mem_cons_self)
          · exact (List.mem_append.mp z).elim (fun z => .inl (List.mem_cons_of_mem _ z)) (fun z => .inr (n4 a z))
        · have o5 : Ow W (offs (hideF B (D :: (fp ++ fp4))) H4) H4 s v4 d fp4 := Ow_mono (fun a o h => by
            obtain ⟨h0, h1⟩ := offx_some h
            obtain ⟨h2, h3⟩ := offs_some h0
            refine offs_at h2 fun z => ?_
            rcases (hideF_off a).mp z with z | z
            · exact h3 (sub3 a ((hideF_off a).mpr (.inl z)))
            · rcases List.mem_cons.mp z with z | z
              · exact h3 (sub3 a ((hideF_off a).mpr (.inr (by rw [z]; exact List.mem_cons_self))))
              · rcases List.mem_append.mp z with z | z
                · exact h3 (sub3 a ((hideF_off a).mpr (.inr (List.mem_cons_of_mem _ z))))
                · exact h1 z) (fun _ _ _ h => h) o4
          have := Ow_mono offU (fun a ha o h => up a o (fun z => nD4 (by rw [← z]; exact ha)) h) o5
          have r := OwAll.cons this (OwAll.nil (s := s))
          rw [List.append_nil] at r
          exact r
      · refine Fr.wpx_mono (fun _ z => z) (fun ds h => ?_) (Fr.wpx_bind.mp q)
        rw [List.append_assoc]
        exact h
  · have hi' : i = xs.length := by omega
    subst hi'
    rw [List.drop_length] at w
    refine .inl ⟨it.stop _ (hideF B (D :: fp)) H' eG (Nat.le_refl _), ?_⟩
    have w' : KF W B H (.l s) Q (.list (ds0 ++ [])) := w
    rw [List.append_nil] at w'
    refine w' (.ref D) H' (D :: fp) (e0.trans ⟨sm, okB⟩) (fun a ha => e0.old (hF a ha)) nd (.l hacc (OwAll_mono (fun a o h => ?_) (fun _ _ _ h => h) hd))
    obtain ⟨z0, z1⟩ := offs_some h
    exact offx_at (offs_at z0 fun z => z1 ((hideF_off a).mpr (.inl z))) fun z => z1 ((hideF_off a).mpr (.inr z))
theorem lc_tell {W : Wd} {Z : WX} {B : Bs} {H : Hp} {σ : L2.St} {ρ : Rn} {fi : Rn → Fr (List PyData)} {t : Tg} {vs : List Nat} {ft : Rn → Fr Bool} {fe : Rn → Fr PyData} {s : Sh} {Q : VK} (hR : Rho W B H σ ρ) (hw : (fLcF fi t vs ft fe ρ).wpx (EE W Z B H σ) (KF W B H (.l s) Q)) (hsl : ∀ i ∈ t.slots, i ∈ vs) :
    tLc (tDI W Z fi) (TgR W.K t) (tDT W Z0 ft) (tF W Z0 s fe) vs σ H Q :=
  ⟨B, ρ, hR, Fr.wpx_mono (fun _ z => z) (fun xs q J H1 e0 it => lc_body hR e0 it q hsl) (Fr.wpx_bind.mp hw)⟩
/-- a fresh list of data, let go as data -/
theorem KF.data {W : Wd} {B : Bs} {H : Hp} {Q : VK} {ds : List PyData} (ok : Bok B H) (h : KE W B H Q (.d (.list ds))) : KF W B H (.l .d) Q (.list ds) := fun v H' fp e hf nd o => by
  cases o with
  | l hl t =>
    obtain ⟨t1, t2⟩ := t.data
    refine h _ H' e (Dq.lst (offs_at hl (ok.free (hf _ List.mem_cons_self))) (DqAll_mono (fun a o q => (offx_some q).1) t1))
section
variable {X : Cx} {Z : WX} {elt tg iter : Expr} {ifs : List Expr} {scope : Scope} {own : List (Str × Nat)} {pos : Pos} {fi : Rn → Fr (List PyData)} {t : Tg} {ft : Rn → Fr Bool} {fe : Rn → Fr Sl} {ff : Rn → Fr PyData} {s : Sh}
theorem _root_.L2.PTs.weak {t t' : TT} (h : PTs X ifs t) (w : ∀ σ H Q, t' σ H Q → t σ H Q) : PTs X ifs t' := ⟨fun pins s σ H Q I q => h.run pins s σ H Q I (w σ H Q q)⟩
abbrev XTs (X : Cx) (Z : WX) (ifs : List Expr) (f : Rn → Fr Bool) : Prop := PTs X ifs (tDT X.wd Z f)
def fYes : Rn → Fr Bool := fun _ => .ret true
theorem xts_nil : XTs X Z [] fYes := pts_nil.weak fun σ H Q ⟨B, ρ, hR, hw⟩ => hw H (Ext.refl hR.ok)
theorem xf_lc (own : List (Str × Nat)) (hc : X.calm = true) (hN : X.N.Nodup) (hi : XI X Z tg iter fi) (ok : BlkOk X.N X.env.scope scope own) (hg : ∀ (s : Shared) (H : Hp) (C : Addr) (cl : List (Str × Addr)) (fp : List Addr), XG (X.blk s H scope (compEnvC scope cl C X.env) fp) tg t)
    (ht : ∀ (s : Shared) (H : Hp) (C : Addr) (cl : List (Str × Addr)) (fp : List Addr), XTs (X.blk s H scope (compEnvC scope cl C X.env) fp) Z0 ifs ft) (he : ∀ (s' : Shared) (H : Hp) (C : Addr) (cl : List (Str × Addr)) (fp : List Addr), XF (X.blk s' H scope (compEnvC scope cl C X.env) fp) Z0 elt s ff)
    (hsl : ∀ i ∈ t.slots, i ∈ own.map (·.2) := by decide) (hs : ∀ x, foldedSetIterable iter X.env x = pure x := by intro _; rfl) : XF X Z (.ListComp elt [⟨tg, iter, ifs, 0⟩] scope pos) (.l s) (fLcF fi t (own.map (·.2)) ft ff) :=
  (pe_lc hc hN hi ok hg ht he hs).weak fun σ H Q ⟨B, ρ, hR, hw⟩ => lc_tell hR hw hsl
theorem xe_lc (own : List (Str × Nat)) (hc : X.calm = true) (hN : X.N.Nodup) (hi : XI X Z tg iter fi) (ok : BlkOk X.N X.env.scope scope own) (hg : ∀ (s : Shared) (H : Hp) (C : Addr) (cl : List (Str × Addr)) (fp : List Addr), XG (X.blk s H scope (compEnvC scope cl C X.env) fp) tg t)
    (ht : ∀ (s : Shared) (H : Hp) (C : Addr) (cl : List (Str × Addr)) (fp : List Addr), XTs (X.blk s H scope (compEnvC scope cl C X.env) fp) Z0 ifs ft) (he : ∀ (s : Shared) (H : Hp) (C : Addr) (cl : List (Str × Addr)) (fp : List Addr), XE (X.blk s H scope (compEnvC scope cl C X.env) fp) Z0 elt fe)
    (hsl : ∀ i ∈ t.slots, i ∈ own.map (·.2) := by decide) (hs : ∀ x, foldedSetIterable iter X.env x = pure x := by intro _; rfl) : XE X Z (.ListComp elt [⟨tg, iter, ifs, 0⟩] scope pos) (fLc fi t (own.map (·.2)) ft fe) :=
  (xf_lc own hc hN hi ok hg ht (fun s H C cl fp => xf_d (he s H C cl fp)) hsl hs).weak fun σ H Q ⟨B, ρ, hR, hw⟩ => ⟨B, ρ, hR, Fr.wpx_mono (fun _ z => z) (fun x q v H' fp e hf nd o => by
    cases o with
    | l hl t => exact KF.data hR.ok q _ H' _ e hf nd (.l hl t)) (Fr.wpx_bind.mp hw)⟩
end
end TM
namespace TM
open PySem PySem.Spec PyProof.Rows L2
def argOk : Sl → Bool
  | .own _ _ => false
  | _ => true
/-- what is handed out: the def's own things are data from then on -/
def frz : Sl → Sl
  | .own _ x => .d x
  | s => s
def startR (n : Nat) (ss : List Sl) : Rn := ss.map some ++ List.replicate (n - ss.length) none
def outS (o : Out) : Fr Sl := match o with
  | .rt s => .ret (frz s)
  | .nx _ => .ret (.d .none)
  | .ex _ x => .exc x
  | _ => .bad
def fnSem (n : Nat) (g : Rn → Fr Out) (ss : List Sl) : Fr Sl := (g (startR n ss)).noX.bind outS
def EX (W : Wd) (B : Bs) (H : Hp) (E : XK) : PyData → Prop := fun x => ∀ cls d H', Ext B H H' → RdX W B H' cls d x → E cls d H'
def spD (W : Wd) (m : Nat) (f : List Sl → Fr Sl) : Sp := fun vs H Q E => vs.length = m ∧ ∃ B ss, Bok B H ∧ RdSs W B H vs ss ∧ ss.all argOk = true ∧ (f ss).wpx (EX W B H E) (KE W B H Q)
/-- the def's own things, seen as hidden -/
def hideOwn (B : Bs) : Bs := ⟨B.bag, B.cel, fun a => B.hid a ∨ ∃ i, a ∈ B.own i, fun _ => [], B.tab⟩
section
variable {W : Wd} {B : Bs} {H : Hp}
theorem hideOwn_mh {a : Addr} (h : B.off a) : (hideOwn B).mv a ∨ (hideOwn B).hid a := h.imp id id
theorem hideOwn_off (a : Addr) : (hideOwn B).off a ↔ B.off a := by
  constructor
  · rintro (h | (h | h) | ⟨i, h⟩)
    · exact .inl h
    · exact .inr (.inl h)
    · exact .inr (.inr h)
    · cases h
  · rintro (h | h | h)
    · exact .inl h
    · exact .inr (.inl (.inl h))
    · exact .inr (.inl (.inr h))
theorem bok_hideOwn (ok : Bok B H) : Bok (hideOwn B) H := ⟨ok.bag, fun b hb i => ⟨fun z => (by cases z), fun z => (by cases z)⟩, fun a ha => ha.elim (ok.hid a) (fun ⟨i, h⟩ => ok.own i a h), fun i a ha => (by cases ha), fun i => List.nodup_nil, fun i j a _ h => (by cases h), fun i a h => (by cases h), ok.tab, fun a ha => ⟨fun i z => (by cases z), fun z => z.elim (ok.ntab a ha).2 fun ⟨i, h⟩ => (ok.ntab a ha).1 i h⟩, fun c q h => ⟨fun i z => (by cases z), fun z => z.elim (ok.cod c q h).2 fun ⟨i, w⟩ => (ok.cod c q h).1 i w⟩⟩
theorem rds_hideOwn {v : V} {s : Sl} (h : RdS W B H v s) (ha : argOk s = true) : RdS W (hideOwn B) H v s := by
  cases s with
  | d x => show Dq W (offs (hideOwn B) H) v x; rw [offs_congr hideOwn_off]; exact h
  | own _ _ => cases ha
  | bag => exact h
  | kp _ _ => exact RdS.fmono (W := W) isFn h (fun a o z => by rw [offs_congr hideOwn_off]; exact z) rfl
  | tb _ _ => exact h
theorem rho_start (ok : Bok B H) : ∀ {vs : List V} {ss : List Sl}, RdSs W B H vs ss → ss.all argOk = true → ∀ (i : Nat) (s : Sl), (ss.map some)[i]? = some (some s) → ∃ v, (vs.map some)[i]? = some (some v) ∧ argOk s = true ∧ RdS W (hideOwn B) H v s
  | _, _, .nil, _, i, s, h => by simp at h
  | v :: vs, s0 :: ss, .cons r rs, ha, 0, s, h => by
    have e : s0 = s := by
      have := Option.some.inj h
      exact Option.some.inj this
    subst e
    rw [List.all_cons, Bool.and_eq_true] at ha
    exact ⟨v, rfl, ha.1, rds_hideOwn r ha.1⟩
  | v :: vs, s0 :: ss, .cons r rs, ha, i + 1, s, h => by
    rw [List.all_cons, Bool.and_eq_true] at ha
    exact rho_start ok rs ha.2 i s h
theorem start_get {α β : Type} {as : List α} {bs : List β} (hl : as.length = bs.length) {n : Nat} {R : α → β → Prop} (h : ∀ (i : Nat) (s : β), (bs.map some)[i]? = some (some s) → ∃ v, (as.map some)[i]? = some (some v) ∧ R v s) (i : Nat) (s : β)
    (e : (bs.map some ++ List.replicate (n - bs.length) none)[i]? = some (some s)) : ∃ v, (as.map some ++ List.replicate (n - as.length) none)[i]? = some (some v) ∧ R v s := by
  by_cases hi : i < bs.length
  · rw [List.getElem?_append_left (by rw [List.length_map]; exact hi)] at e
    obtain ⟨v, h1, h2⟩ := h i s e
    exact ⟨v, by rw [List.getElem?_append_left (by rw [List.length_map, hl]; exact hi)]; exact h1, h2⟩
  · rw [List.getElem?_append_right (by rw [List.length_map]; omega)] at e
    rw [List.getElem?_replicate] at e
    split at e
    · cases e
    · cases e
theorem rho_in {vs : List V} {ss : List Sl} {N : List Str} (ok : Bok B H) (r : RdSs W B H vs ss) (ha : ss.all argOk = true) : Rho W (hideOwn B) H (L2.start N vs) (startR N.length ss) := by
  have hl : vs.length = ss.length := Paired.length r
  refine ⟨bok_hideOwn ok, ?_, fun i s e => ?_⟩
  · unfold startR L2.start
    rw [List.length_append, List.length_append, List.length_map, List.length_map, List.length_replicate, List.length_replicate, hl]
  · obtain ⟨v, h1, h2, h3⟩ := start_get hl (rho_start ok r ha) i s e
    refine ⟨v, h1, ?_⟩
    cases s with
    | d x => exact h3
    | own _ _ => cases h2
    | bag => exact h3
    | kp _ _ => exact h3
    | tb _ _ => exact h3
theorem hideOwn_back {B' : Bs} {H' : Hp} (ok : Bok B H) (e : ExS (hideOwn B) H B' H') : Ext B H H' := by
  refine ⟨fun a o h1 h => e.same a o h1 (fun i z => by cases z) h, ok.ext0 (fun a o h1 h => e.same a o h1 (fun i z => by cases z) h) (e.ok.mvo.of e.bag e.cel e.tab)⟩
theorem hideOwn_offB {B' : Bs} {H' : Hp} (e : ExS (hideOwn B) H B' H') : ∀ a o, offs B' H' a = some o → offs B H' a = some o := fun a o h => by
  obtain ⟨h0, h1⟩ := offs_some h
  exact offs_at h0 fun z => h1 (mh_off (e.sub a (hideOwn_mh z)))
/-- what a def hands out is data for its caller -/
theorem hideOwn_out {B' : Bs} {H' : Hp} {v : V} {s : Sl} (ok : Bok B H) (e : ExS (hideOwn B) H B' H') (r : RdS W B' H' v s) : RdS W B H' v (frz s) := by
  cases s with
  | d x => exact Dq_mono (hideOwn_offB e) r
  | own sh x =>
    obtain ⟨fp, h1, h2⟩ := r
    have h3 : ∀ a ∈ fp, ¬ B.off a := fun a ha => by
      obtain ⟨i, hi⟩ := h2 a ha
      rcases e.newo i a hi with ⟨j, h⟩ | h
      · cases h
      · exact ok.free h
    have conv : ∀ (a : Addr) (o : HO), H' a = some o → ¬ B.off a → offs B H' a = some o := fun a o h n => offs_at h n
    exact (Ow_mono (Hd' := offs B H') (H' := offs B H') (hideOwn_offB e) (fun a ha o h => conv a o h (h3 a ha)) h1).dq fun _ _ h => h
  | bag =>
    obtain ⟨b, rfl, hb⟩ := r
    exact ⟨b, rfl, e.bag.symm.trans hb⟩
  | kp _ _ => exact RdS.fmono (W := W) isFn r (hideOwn_offB e) e.bag.symm
  | tb _ _ => exact ⟨r.1, by rw [show B.tab = B'.tab from e.tab.symm]; exact r.2⟩
end
end TM
namespace TM
open PySem PySem.Spec PyProof.Rows L2
theorem takes0 {X : Cx} : Takes X Z0 := fun _ _ x => by
  obtain ⟨_, _, _, _, _, _, _, _, _, _, _, _, _, _, _, _, z⟩ := x
  exact z.elim
section
variable {P : Program} {w : World} {K : PySem.W.Frag} {mg : Str → Option Value} {base : Heap} {x qual : Str} {params : Arguments} {body : List Stmt} {scope : Scope} {dvs : List V} {kws : List (Str × V)} {f : Addr} {fd : FuncData}
/-- the wish at a def's border -/
abbrev ZE (E : XK) : WX := fun cls d _ H => E cls d H
/-- a def keeps the promise that its body's reading tells -/
theorem fn_ok {N ps : List Str} {k : Nat} {g : Rn → Fr Out} (F : FunD K x qual params body scope dvs kws f fd) (S : FnScope N ps scope)
    (hb : ∀ (cdv : Value) (A : Around) (outer : List Env) (s : Shared) (H : Hp) (E : XK), Room k (A.deeper (envOfC qual scope s.heap.objs.size f cdv)) → XB (cxOf (L2.CX P w) P w K mg base N qual scope f cdv A outer s H E) (ZE E) body g) :
    FnOk P w K mg base (L2.CX P w) (k + 1) f fd ps (spD ⟨K, mg⟩ ps.length (fnSem N.length g)) := by
  refine F.ok S (fun vs H Q E h => h.1) fun cdv A outer s H vs Q E hr h => ⟨_, hb cdv A outer s H E hr, ?_⟩
  obtain ⟨_, B, ss, ok, r, ha, w⟩ := h
  refine ⟨hideOwn B, startR N.length ss, rho_in ok r ha, Fr.wp_mono (fun o q => ?_) (Fr.wp_noX (Fr.wpx_bind.mp w))⟩
  cases o with
  | nx ρ => exact fun B' σ' H' e R => q .non H' (hideOwn_back ok e) Dq.non
  | bk ρ => exact q.elim
  | ct ρ => exact q.elim
  | rt s => exact fun B' v H' e r => q v H' (hideOwn_back ok e) (hideOwn_out ok e r)
  | ex ρ x =>
    intro B' σ' H' cls d e R rx
    refine q cls d H' (hideOwn_back ok e) ?_
    unfold RdX at rx ⊢
    split at rx
    · obtain ⟨C, dx, fs, h1, h2, h3, h4, h5, h6⟩ := rx
      exact ⟨C, dx, fs, h1, h2, h3, h4, fun z => h5 (mh_off (e.sub dx (hideOwn_mh z))), DqF_mono (hideOwn_offB e) h6⟩
    · exact rx.elim
end
/-- a def of the module, by its name: what it promises, at most k calls deep -/
structure Df (P : Program) (w : World) (K : PySem.W.Frag) (mg : Str → Option Value) (base : Heap) (k : Nat) (x : Str) (ps : List Str) (m : Nat) (fs : List Sl → Fr Sl) (f : Addr) (fd : FuncData) : Prop where
  gl : mg x = some (.ref f)
  kp : PySem.W.keepIn K (.ref f) = true
  ok : FnOk P w K mg base (L2.CX P w) k f fd ps (spD ⟨K, mg⟩ m fs)
  bd : Binds K fd ps []
def atom : Sl → Fr Sl
  | .d (.int i) => .ret (.d (.int i))
  | .d (.bool i) => .ret (.d (.bool i))
  | .d (.str i) => .ret (.d (.str i))
  | .d .none => .ret (.d .none)
  | _ => .bad
/-- a call: own things are lent, then no more than an atom comes back -/
def callS (m : Nat) (fs : List Sl → Fr Sl) (ss : List Sl) : Fr Sl := if ss.length = m then if ss.all argOk = true then fs ss else (fs (ss.map frz)).noX.bind atom else .bad
def fCall (m : Nat) (fs : List Sl → Fr Sl) (fr : Rn → Fr (List Sl)) : Rn → Fr Sl := fun ρ => (fr ρ).bind (callS m fs)
def noOwn (B : Bs) : Bs := ⟨B.bag, B.cel, B.hid, fun _ => [], B.tab⟩
section
variable {W : Wd} {B : Bs} {H H' : Hp}
theorem noOwn_ok (ok : Bok B H) : Bok (noOwn B) H := ⟨ok.bag, fun b hb i => ⟨fun z => (by cases z), fun z => (by cases z)⟩, ok.hid, fun i a ha => (by cases ha), fun i => List.nodup_nil, fun i j a _ h => (by cases h), fun i a h => (by cases h), ok.tab, fun a ha => ⟨fun i z => (by cases z), (ok.ntab a ha).2⟩, fun c q h => ⟨fun i z => (by cases z), (ok.cod c q h).2⟩⟩
theorem noOwn_offs : ∀ a o, offs B H a = some o → offs (noOwn B) H a = some o := fun a o h => by
  obtain ⟨h0, h1⟩ := offs_some h
  refine offs_at h0 fun z => h1 ?_
  rcases z with z | z | ⟨i, z⟩
  · exact .inl z
  · exact .inr (.inl z)
  · cases z
theorem noOwn_rd {v : V} {s : Sl} (ok : Bok B H) (h : RdS W B H v s) : RdS W (noOwn B) H v (frz s) := by
  cases s with
  | d x => exact Dq_mono noOwn_offs h
  | own sh x =>
    obtain ⟨fp, h1, h2⟩ := h
    refine (Ow_mono (Hd' := offs (noOwn B) H) (H' := offs (noOwn B) H) noOwn_offs (fun a ha o q => offs_at q fun z => ?_) h1).dq fun _ _ h => h
    obtain ⟨i, hi⟩ := h2 a ha
    rcases z with z | z | ⟨j, z⟩
    · exact ok.mv_own z i hi
    · exact ok.nh i a hi z
    · cases z
  | bag => exact h
  | kp _ _ => exact RdS.fmono (W := W) isFn h noOwn_offs rfl
  | tb _ _ => exact h
theorem noOwn_rds (ok : Bok B H) : ∀ {vs : List V} {ss : List Sl}, RdSs W B H vs ss → RdSs W (noOwn B) H vs (ss.map frz)
  | _, _, .nil => .nil
  | _, _, .cons h t => .cons (noOwn_rd ok h) (noOwn_rds ok t)
theorem noOwn_ext (ok : Bok B H) (e : Ext (noOwn B) H H') : Ext B H H' := ⟨e.same, ok.ext0 e.same ⟨e.ok.bag, e.ok.tab⟩⟩
theorem frz_ok : ∀ ss : List Sl, (ss.map frz).all argOk = true
  | [] => rfl
  | .d _ :: ss => frz_ok ss
  | .own _ _ :: ss => frz_ok ss
  | .bag :: ss => frz_ok ss
  | .kp _ _ :: ss => frz_ok ss
  | .tb _ _ :: ss => frz_ok ss
end
theorem spD_call {W : Wd} {B : Bs} {H : Hp} {m : Nat} {fs : List Sl → Fr Sl} {vs : List V} {ss : List Sl} {Q : VK} {E : XK} (ok : Bok B H) (r : RdSs W B H vs ss) (w : (callS m fs ss).wpx (EX W B H E) (KE W B H Q)) : spD W m fs vs H Q E := by
  unfold callS at w
  split at w
  · rename_i hl
    split at w
    · rename_i ha
      exact ⟨(Paired.length r).trans hl, B, ss, ok, r, ha, w⟩
    · refine ⟨(Paired.length r).trans hl, noOwn B, ss.map frz, noOwn_ok ok, noOwn_rds ok r, frz_ok ss, Fr.wp_x (Fr.wp_mono (fun s q v H' e rs => ?_) (Fr.wp_noX (Fr.wpx_bind.mp w)))⟩
      have e' := noOwn_ext ok e
      unfold atom at q
      split at q
      · cases rs; exact q _ H' e' (Dq.int _)
      · cases rs; exact q _ H' e' (Dq.bl _)
      · cases rs; exact q _ H' e' (Dq.str _)
      · cases rs; exact q _ H' e' Dq.non
      · exact q.elim
  · exact w.elim
section
variable {X : Cx} {Z : WX} {k m : Nat} {x : Str} {ps : List Str} {fs : List Sl → Fr Sl} {f : Addr} {fd : FuncData} {e : Expr} {es : List Expr} {fr : Rn → Fr (List Sl)} {p pos : Pos}
theorem ex_of {B : Bs} {H H1 : Hp} {σ : L2.St} {f : Fr Sl} {Q : VK} (e : Ext B H H1) (h : f.wpx (EE X.wd Z B H σ) (KE X.wd B H Q)) : f.wpx (EX X.wd B H1 (WE Z σ)) (KE X.wd B H1 Q) := Fr.wpx_mono (fun _ k cls d H2 e2 r => k cls d H2 (e.trans e2) r) (fun _ k => KE.mono e k) h
theorem xe_call (tk : Takes X Z) (F : Df X.prog X.w X.K X.mg X.base k x ps m fs f fd) (hr : Room k X.A) (ha : XA X Z (e :: es) fr) (hg : Gl X x := by rfl) (hdb : (x == ("__debug__" : Str)) = false := by decide) (he : starEach (e :: es) X.env = (false, eval e X.env) :: starEach es X.env := by rfl)
    (hpl : (backTo pos (starEach es X.env)).any (·.1) = false := by rfl) : XE X Z (.Call (.Name x p) (e :: es) [] pos) (fCall m fs fr) :=
  xe_of (pe_callSD F.ok hr hg F.gl F.kp F.bd .nil (fun σ => passAt tk σ) ha hdb he hpl) fun B ρ σ H Q hR hw => dA hR hw fun ss vs H1 e r q => by
    rw [List.append_nil]
    exact spD_call e.ok r (ex_of e q)
/-- f() -/
theorem pe_callS0 {CX : CXT} {sp : Sp} {E : L2.St → XK} (F : FnOk X.prog X.w X.K X.mg X.base CX k f fd ps sp) (hr : Room k X.A) (hg : Gl X x) (hm : X.mg x = some (.ref f)) (hk : PySem.W.keepIn X.K (.ref f) = true) (hb : Binds X.K fd ps []) (hx : ∀ σ, PassesAt CX X σ (E σ))
    (hdb : (x == ("__debug__" : Str)) = false := by decide) : PE X (.Call (.Name x p) [] [] pos) (fun σ H Q => sp [] H Q (E σ)) :=
  ⟨fun pins s σ H Q I h => wpAny_Call_Name_kw (ld_glob I hg hm (PySem.W.callWith_K0 I.kIn hk (run_fnSD (us := []) (vs := []) (dvs := []) F hr hb .nil (hx σ) I .nil h)) hdb)⟩
theorem xe_call0 (tk : Takes X Z) (F : Df X.prog X.w X.K X.mg X.base k x ps m fs f fd) (hr : Room k X.A) (hg : Gl X x := by rfl) (hdb : (x == ("__debug__" : Str)) = false := by decide) : XE X Z (.Call (.Name x p) [] [] pos) (fCall m fs fNil) :=
  xe_of (pe_callS0 F.ok hr hg F.gl F.kp F.bd (fun σ => passAt tk σ) hdb) fun B ρ σ H Q hR hw => spD_call hR.ok .nil (ex_of (Ext.refl hR.ok) hw)
abbrev XK' (X : Cx) (Z : WX) (kws : List Keyword) (f : Rn → Fr (List Sl)) : Prop := PK X kws (tDA X.wd Z f)
theorem _root_.L2.PK.weak {kws : List Keyword} {t t' : TA} (h : PK X kws t) (w : ∀ σ H Q, t' σ H Q → t σ H Q) : PK X kws t' := ⟨fun pos pins s σ H Q I q => h.run pos pins s σ H Q I (w σ H Q q)⟩
theorem xk_nil : XK' X Z [] fNil := pk_nil.weak fun σ H Q ⟨B, ρ, hR, hw⟩ => hw [] H (Ext.refl hR.ok) .nil
theorem xk_cons {kws : List Keyword} {nm : Option Str} {kpos : Pos} {a : Expr} {fa : Rn → Fr Sl} (ha : XE X Z a fa) (hr : XK' X Z kws fr) : XK' X Z (⟨nm, a, kpos⟩ :: kws) (fCons fa fr) := (pk_cons ha hr).weak fun σ H Q ⟨B, ρ, hR, hw⟩ =>
  d1 hR hw fun x v H1 e r1 q => dA' hR e q fun xs vs H2 e2 r2 q2 => q2 (v :: vs) H2 (e.trans e2) (.cons (r1.mono e2 e.ok) r2)
/-- the values ws of the keywords, in the parameters' order: pi tells their places -/
def ord {α : Type} (d : α) (pi : List Nat) (ws : List α) : List α := pi.map fun i => ws.getD i d
theorem ord_vals {zs : List V} {ws : List Value} (h : Vals zs ws) : ∀ pi : List Nat, Vals (ord .non pi zs) (ord .none pi ws)
  | [] => .nil
  | i :: pi => by
    refine .cons ?_ (ord_vals h pi)
    show RelV (zs.getD i .non) (ws.getD i .none)
    cases q : zs[i]? with
    | none =>
      have q2 := h.none_of q
      rw [List.getD_eq_getElem?_getD, List.getD_eq_getElem?_getD, q, q2]
      rfl
    | some z =>
      obtain ⟨u, h1, h2⟩ := h.get q
      rw [List.getD_eq_getElem?_getD, List.getD_eq_getElem?_getD, q, h1]
      exact h2
theorem ord_rds {W : Wd} {B : Bs} {H : Hp} : ∀ {vs : List V} {ss : List Sl}, RdSs W B H vs ss → ∀ pi : List Nat, RdSs W B H (ord .non pi vs) (ord (.d .none) pi ss)
  | vs, ss, h, [] => .nil
  | vs, ss, h, i :: pi => by
    refine .cons ?_ (ord_rds h pi)
    show RdS W B H (vs.getD i .non) (ss.getD i (.d .none))
    have aux : ∀ {vs : List V} {ss : List Sl}, RdSs W B H vs ss → ∀ i : Nat, RdS W B H (vs.getD i .non) (ss.getD i (.d .none)) := by
      intro vs ss h
      induction h with
      | nil => intro i; exact Dq.non
      | cons r _ ih =>
        intro i
        cases i with
        | zero => exact r
        | succ i => exact ih i
    exact aux h i
def fCallK (m n : Nat) (pi : List Nat) (fs : List Sl → Fr Sl) (fr : Rn → Fr (List Sl)) : Rn → Fr Sl := fun ρ => (fr ρ).bind fun ss => if ss.length = n then callS m fs (ord (.d .none) pi ss) else .bad
end
end TM
namespace TM
open PySem PySem.Spec PyProof.Rows L2
theorem hu65 {k : Nat} {A : Around} (hr : Room k A) : A.units + 65 < cLine := by
  have := hr.un
  omega
def cPow (i j : Int) : Bool := decide (0 ≤ j ∧ j ≤ 1000000 ∧ i.natAbs < 18446744073709551616)
def sSub := sI fun i j => .int (i - j)
def sPow := sIc cPow fun i j => .int (i ^ j.toNat)
def sLt := sI fun i j => .bool (decide (i < j))
def sLe := sI fun i j => .bool (decide (i ≤ j))
def sGt := sI fun i j => .bool (decide (j < i))
def sGe := sI fun i j => .bool (decide (j ≤ i))
theorem cPow_ok {i j : Int} (h : cPow i j = true) : CPow i j := by
  have q : 0 ≤ j ∧ j ≤ 1000000 ∧ i.natAbs < 18446744073709551616 := of_decide_eq_true h
  exact q
section
variable {X : Cx} {Z : WX} {a b c : Expr} {pos : Pos} {fa fb fc : Rn → Fr Sl}
theorem xe_add (ha : XE X Z a fa) (hb : XE X Z b fb) : XE X Z (.BinOp a .Add b pos) (f2 sAdd fa fb) := xe_bin op_addA tell_add ha hb
theorem xe_pow (ha : XE X Z a fa) (hb : XE X Z b fb) : XE X Z (.BinOp a .Pow b pos) (f2 sPow fa fb) := xe_bin op_pow (tell_I fun i j h => cPow_ok h) ha hb
def sNeg : Sl → Fr Sl
  | .d (.int i) => .ret (.d (.int (-i)))
  | _ => .bad
theorem xe_neg (ha : XE X Z a fa) : XE X Z (.UnaryOp .USub a pos) (f1 sNeg fa) := xe_un un_neg (fun B H x v Q E ok r q => by
  unfold sNeg at q
  split at q
  · cases r
    exact ⟨_, rfl, q _ H (Ext.refl ok) (Dq.int _)⟩
  · exact q.elim) ha
theorem xe_eq {k : Nat} (hr : Room k X.A) (ha : XE X Z a fa) (hb : XE X Z b fb) : XE X Z (.Compare a [.Eq] [b] pos) (f2 sEq fa fb) := xe_cmp (op_eqA hr.units) tell_eq ha hb (nomark _)
theorem xe_lt (ha : XE X Z a fa) (hb : XE X Z b fb) : XE X Z (.Compare a [.Lt] [b] pos) (f2 sLt fa fb) := xe_cmp op_lt tell_B0 ha hb (nomark _)
theorem xe_ge (ha : XE X Z a fa) (hb : XE X Z b fb) : XE X Z (.Compare a [.GtE] [b] pos) (f2 sGe fa fb) := xe_cmp op_ge tell_B0 ha hb (nomark _)
theorem xe_isN (ha : XE X Z a fa) (hb : XE X Z b fb) : XE X Z (.Compare a [.Is] [b] pos) (f2 sIsN fa fb) := xe_cmp op_isN' tell_isN ha hb (nomark _)
theorem xe_lelt (ha : XE X Z a fa) (hb : XE X Z b fb) (hc : XE X Z c fc) (hm : lastMarks [.LtE, .Lt] [b, c] = false := by with_unfolding_all rfl) : XE X Z (.Compare a [.LtE, .Lt] [b, c] pos) (fChain sLe sLt fa fb fc) := xe_chain op_le tell_B0 op_lt tell_B0 ha hb hc hm
def fB (fa : Rn → Fr Sl) : Rn → Fr Bool := fun ρ => (fa ρ).bind toB
theorem xt_eq {k : Nat} (hr : Room k X.A) (ha : XE X Z a fa) (hb : XE X Z b fb) : XT X Z (.Compare a [.Eq] [b] pos) (fB (f2 sEq fa fb)) := xt_cmp (op_eqA hr.units) tell_eq ha hb (nomark _)
theorem xt_ne {k : Nat} (hr : Room k X.A) (ha : XE X Z a fa) (hb : XE X Z b fb) : XT X Z (.Compare a [.NotEq] [b] pos) (fB (f2 sNe fa fb)) := xt_cmp (op_neA hr.units) tell_ne ha hb (nomark _)
theorem xt_in {k : Nat} (hr : Room k X.A) (ha : XE X Z a fa) (hb : XE X Z b fb) (hm : behindInMarks .In b = false := by rfl) : XT X Z (.Compare a [.In] [b] pos) (fB (f2 sIn fa fb)) := xt_cmp (op_inA (hu65 hr)) tell_in ha hb hm
theorem xt_isN (ha : XE X Z a fa) (hb : XE X Z b fb) : XT X Z (.Compare a [.Is] [b] pos) (fB (f2 sIsN fa fb)) := xt_cmp op_isN' tell_isN ha hb (nomark _)
theorem xe_sub_ (ha : XE X Z a fa) (hb : XE X Z b fb) (hs : PlainIx b) : XE X Z (.Subscript a b pos) (f2 sIx fa fb) := xe_ix ix_any tell_ix ha hb hs
end
structure Kd (K : PySem.W.Frag) (w : World) (mg : Str → Option Value) (x : Str) (ks : List Str) (d : Addr) : Prop where
  gl : mg x = some (.ref d)
  kd : ∃ es n, KDict K w d es n
  has : ∀ z, ∃ r, PySem.W.nsIn K d z = some r ∧ r.isSome = ks.contains z
def sInK (ks : List Str) : Sl → Fr Sl
  | .d (.str z) => .ret (.d (.bool (ks.contains z)))
  | _ => .bad
def toS : Sl → Fr Str
  | .d (.str z) => .ret z
  | _ => .bad
def fS1 (g : Str → Sl → Fr Sl) (fa fb : Rn → Fr Sl) : Rn → Fr Sl := fun ρ => (fa ρ).bind fun x => (toS x).bind fun z => (fb ρ).bind fun y => g z y
end TM
namespace TM
open PySem PySem.Spec PyProof.Rows L2
open AutoSeq1 (wpAny_loadPart')
theorem enum_newT (l : Addr) (items : Array Value) :
    Meets (Builtin.«enumerate.__new__» ⟨[.type "enumerate", .ref l], []⟩) (fun _ R s => s.heap.IsTuple l items ∧
      R (.ok (.ret (.ref (s.heap.push { cls := .type "tuple_iterator", data := .fields #[.ref l, .int 0 0] }).objs.size)))
        { s with heap := (s.heap.push { cls := .type "tuple_iterator", data := .fields #[.ref l, .int 0 0] }).push { cls := .type "enumerate", data := .fields #[.none, .bool false, .ref s.heap.objs.size, rawInt 0, .none, .none] } }) :=
  .of_wp fun prog w A R s h => by
    obtain ⟨hp, g, d, tk, os⟩ := s
    obtain ⟨hT, h⟩ := h
    have hsub := sub_enumerate
    obtain ⟨o, hl, _⟩ := id hT
    wp_walk using wpAny_loadPart' hl
    refine wpAny_stack_any fun st => wpAny_pure ?_
    split
    · rename_i c _ _ _ _ _
      cases (c == Value.type "enumerate")
      · wp_walk using wpAny_loadPart' hl, wpAny_pyIter_tuple hT
        exact ⟨_, rfl, h⟩
      · wp_walk using wpAny_loadPart' hl, wpAny_pyIter_tuple hT
        exact ⟨_, rfl, h⟩
    · wp_walk using wpAny_loadPart' hl, wpAny_pyIter_tuple hT
      exact ⟨_, rfl, h⟩
theorem enum_callT {prog : Program} {w : World} {A : Around} {E : Value → Shared → Prop} {s : Shared} {l : Addr} {items : Array Value} {Q : Value → Shared → Prop} (hL : s.heap.IsTuple l items)
    (h : ∀ h', IsEnum h' (s.heap.objs.size + 1) s.heap.objs.size 0 .none → h'.IsTupleIter s.heap.objs.size l 0 → h'.objs.size = s.heap.objs.size + 2 →
      (∀ b o, s.heap.get? b = some o → h'.get? b = some o) → Q (.ref (s.heap.objs.size + 1)) { s with heap := h' }) :
    wpAny (model prog w) A (call (.type "enumerate") [.ref l]) Q E s := by
  refine callType_new F.called_enumerate (by decide) (F.typeCall_enumerate_1 _) (F.newCall_enumerate_1 _) (fun obj => F.args_object_init_2 obj _) F.entry_enumerate_new
    (enum_newT l items) ⟨hL, ?_⟩
  have hz : (s.heap.push { cls := .type "tuple_iterator", data := .fields #[.ref l, .int 0 0] }).objs.size = s.heap.objs.size + 1 := Heap.size_push ..
  show _ ∧ _
  rw [hz]
  have he : IsEnum ((s.heap.push { cls := .type "tuple_iterator", data := .fields #[.ref l, .int 0 0] }).push
      { cls := .type "enumerate", data := .fields #[.none, .bool false, .ref s.heap.objs.size, rawInt 0, .none, .none] }) (s.heap.objs.size + 1) s.heap.objs.size 0 .none := by
    have e := Heap.get?_push_size (s.heap.push { cls := .type "tuple_iterator", data := .fields #[.ref l, .int 0 0] })
      (o := { cls := .type "enumerate", data := .fields #[.none, .bool false, .ref s.heap.objs.size, rawInt 0, .none, .none] }) rfl
    rw [hz] at e
    exact e
  refine ⟨⟨_, he, rfl⟩, h _ he ⟨_, Heap.get?_push_of_some _ (Heap.get?_push_size _ rfl), rfl, rfl⟩ (by rw [Heap.size_push, hz]) fun b o x => Heap.get?_push_of_some _ (Heap.get?_push_of_some _ x)⟩
def IteT (K : PySem.W.Frag) (a : Addr) : It :=
  ⟨fun i H => ∃ (xs : List V) (x : V), SqT K H a xs ∧ xs[i]? = some x, fun i H v H' => ∃ T x, v = .ref T ∧ H T = none ∧ H' = upd H T (.tup [.int (i : Nat), x]) ∧ ∀ xs, SqT K H a xs → xs[i]? = some x, fun i H => ∃ xs : List V, SqT K H a xs ∧ xs.length ≤ i⟩
theorem turn_enumT {P : Program} {w : World} {K : PySem.W.Frag} {elts : List Expr} {kk : Nat} {tpos : Pos} (a e it : Addr) :
    Turn P w K (.Tuple elts kk tpos) (IteT K a) [e, it] e (fun i h => (∃ old, IsEnum h e it ((i : Nat) : Int) old) ∧ h.IsTupleIter it a i ∧ e ≠ it ∧ a ≠ it ∧ e ≠ a) where
  mem := by simp
  obj := fun i h st b hb => by
    obtain ⟨⟨old, he⟩, ⟨o, ho, hc, hd⟩, _⟩ := st
    have e' : b = e ∨ b = it := by simpa using hb
    rcases e' with z | z
    · rw [z]; exact ⟨_, he, fun v q => nomatch q⟩
    · rw [z]; exact ⟨o, ho, fun v q => by rw [hd] at q; cases q⟩
  keep := fun i h h' st k => let ⟨⟨old, he⟩, hi, hne⟩ := st; ⟨⟨old, k e (by simp) _ he⟩, hi.at fun o q => k it (by simp) o q, hne⟩
  item := by
    intro X hP hw hK hc i pins s σ H E I hf st hg
    subst hP hw hK
    obtain ⟨⟨old, he⟩, hit, hne, hai, hea⟩ := st
    obtain ⟨xs, x, hq, hx⟩ := hg
    obtain ⟨its, rv, p, hz⟩ := I.tuple hq
    have p' : s.heap.IsTuple a its.toArray := p
    obtain ⟨u, hu, ru⟩ := rv.get hx
    have hel : e < s.heap.objs.size := Heap.lt_size he
    have hil : it < s.heap.objs.size := by obtain ⟨_, q, _⟩ := hit; exact Heap.lt_size q
    have hlen : i < its.toArray.size := by
      rw [List.size_toArray]
      exact (List.getElem?_eq_some_iff.mp hu).1
    have D := Draws.tuple (prog := X.prog) (w := X.w) (A := X.A.in1) (I.ok.hd hc) it a hai its.toArray
    refine wpAny_pyNext_enum_itemD D he ⟨hit, p'⟩ hlen hne (by simp [hne, hea]) fun y h' tk hy ho hit' hT hsz hk => ?_
    have ey : y = u := by
      have q : its.toArray[i]? = some y := hy
      rw [show its.toArray[i]? = its[i]? by simp, hu] at q
      exact (Option.some.inj q).symm
    subst ey
    refine ⟨_, rfl, wpAny_letOwnedTupleGo_enum (s := { s with heap := h', toks := tk + 1 }) ho fun h'' he' sb => ?_⟩
    have hT2 : h''.get? s.heap.objs.size = some { cls := .type "tuple", data := .seq #[.int i tk, y] } := (sb.2 _ (Nat.ne_of_gt hel)).trans hT
    have new : ObjOk X.prog X.w (upd H s.heap.objs.size (.tup [.int (i : Nat), x])) h'' s.heap.objs.size (.tup [.int (i : Nat), x]) :=
      ⟨by show 2 ≤ sizeLine; decide, [.int i tk, y], .cons ⟨_, rfl⟩ (.cons ru .nil), ⟨_, hT2, rfl, _, rfl⟩⟩
    have I1 : Inv X pins σ (upd H s.heap.objs.size (.tup [.int (i : Nat), x])) { s with heap := h'', toks := tk + 1 } :=
      I.turnedNew (ch := [e, it]) (fun b ob hb q => (sb.2 b (fun z => hb (by simp [z]))).trans (hk b ob (fun z => hb (by simp [z])) (fun z => hb (by simp [z])) q)) hf (Nat.le_refl _) new
    refine ⟨.ref s.heap.objs.size, _, I1, rfl, ⟨_, x, rfl, I.hok.fresh (Nat.le_refl _), rfl, fun ys hy => by rw [I.tuple_inj hy hq]; exact hx⟩, ⟨⟨y, ?_⟩, hit'.1.at fun o q => (sb.2 it (Ne.symm hne)).trans q, hne, hai, hea⟩, fun b hb => ?_⟩
    · have e1 : ((i + 1 : Nat) : Int) = (i : Int) + 1 := by omega
      rw [e1]; exact he'
    · have hb' : b < s.heap.objs.size := by
        have e' : b = e ∨ b = it := by simpa using hb
        rcases e' with z | z
        · rw [z]; exact hel
        · rw [z]; exact hil
      rw [upd_ne (Nat.ne_of_lt hb')]
      exact (hf b hb).1
  done := by
    intro X hP hw hK hc i pins s σ H E I hf st hg
    subst hP hw hK
    obtain ⟨⟨old, he⟩, hit, hne, hai, hea⟩ := st
    obtain ⟨xs, hq, hx⟩ := hg
    obtain ⟨its, rv, p, hz⟩ := I.tuple hq
    have p' : s.heap.IsTuple a its.toArray := p
    obtain ⟨f0, f1, f2, f3, f4, f5⟩ := hf it (by simp)
    have hl := rv.length
    have hT : s.TypeIs (.ref e) "enumerate" := ⟨_, he, rfl⟩
    unfold pyNext
    refine wpAny_bind (wpAny_attempt (wpAny_callSpecial?_slot (name := Str.ofString "__next__") hT F.slot_enumerate_next
      (wpAny_call_entry F.slot_enumerate_next hT F.entry_enumerate_next ?_ (F.args_enumerate_next_1 _))))
    show wpAny _ _ (field (.ref e) 2 >>= _) _ _ _
    refine wpAny_bind (wpAny_field he rfl (x := .ref it) rfl ?_)
    refine wpAny_bind (wpAny_nextOf_tuple_end (I.ok.hd hc) hit p' (by simp; omega) fun h' x he' hx' => ?_)
    obtain ⟨o, ho, hc'⟩ := hx'
    refine wpAny_bind (wpAny_isInstance (T := "StopIteration") (b := true) ⟨o, ho, hc'⟩ isSubtype_stop ?_)
    exact wpAny_pure ⟨rfl, I.turned (t' := s.toks) (fun b o hb q => he' b o hb q) f0 f1 f3 f4 f5⟩
  self := fun A i s Q E st h => let ⟨⟨_, he⟩, _⟩ := st; wpAny_pyIter_enum he h
def iEnumA (K : PySem.W.Frag) (ta : TA) : TI := fun σ H R => ta σ H fun vs H1 => ∃ a xs, vs = [.ref a] ∧ ((SqL K H1 a xs ∧ R (Ite K a) H1) ∨ (SqT K H1 a xs ∧ R (IteT K a) H1))
theorem pi_enumA {X : Cx} {e : Expr} {ta : TA} {p pos tpos : Pos} {elts : List Expr} {kk : Nat} (hg : Gl X "enumerate") (hm : X.mg "enumerate" = none) (ha : PA X [e] ta) (hs : starEach [e] X.env = [(false, eval e X.env)] := by rfl) :
    PI X (.Tuple elts kk tpos) (.Call (.Name "enumerate" p) [e] [] pos) (iEnumA X.K ta) := by
  refine ⟨fun pins s σ H R I h => ?_⟩
  refine Call_ (ld_blt I hg hm boot_enumerate (PyProof.Rows.callWith_type1 (thn (ha.run pos pins s σ H _ I h) fun us s1 ⟨vs, H1, I1, r1, q1⟩ => ?_) hs rfl))
  obtain ⟨a, xs, ex, hq⟩ := q1
  subst ex
  cases r1 with
  | cons r rr =>
    cases rr
    cases r
    rcases hq with ⟨hq, q⟩ | ⟨hq, q⟩
    · obtain ⟨its, rv, p', hz⟩ := I1.list hq
      refine call_enumerate_list p'.isList fun h' he hit hsz hk => wpAny_pyIter_enum he ?_
      have I2 : Inv X pins σ H1 { s1 with heap := h' } := I1.kept (t' := s1.toks) hk
      refine ⟨s1.heap.objs.size + 1, [s1.heap.objs.size + 1, s1.heap.objs.size], _, _, H1, rfl, I2, turn_enum a (s1.heap.objs.size + 1) s1.heap.objs.size, ⟨⟨.none, he⟩, hit, Nat.succ_ne_self _⟩, fun b hb => ?_, q⟩
      have e' : b = s1.heap.objs.size + 1 ∨ b = s1.heap.objs.size := by simpa using hb
      have hle : s1.heap.objs.size ≤ b := by
        rcases e' with z | z
        · rw [z]; exact Nat.le_add_right _ _
        · rw [z]; exact Nat.le_refl _
      exact I1.fpOk hle (I1.hok.fresh hle)
    · obtain ⟨its, rv, p', hz⟩ := I1.tuple hq
      have p2 : s1.heap.IsTuple a its.toArray := p'
      have hal : a < s1.heap.objs.size := by obtain ⟨o, q, _⟩ := id p2; exact Heap.lt_size q
      refine enum_callT p2 fun h' he hit hsz hk => wpAny_pyIter_enum he ?_
      have I2 : Inv X pins σ H1 { s1 with heap := h' } := I1.kept (t' := s1.toks) hk
      refine ⟨s1.heap.objs.size + 1, [s1.heap.objs.size + 1, s1.heap.objs.size], _, _, H1, rfl, I2, turn_enumT a (s1.heap.objs.size + 1) s1.heap.objs.size, ⟨⟨.none, he⟩, hit, Nat.succ_ne_self _, Nat.ne_of_lt hal, Nat.ne_of_gt (Nat.lt_succ_of_lt hal)⟩, fun b hb => ?_, q⟩
      have e' : b = s1.heap.objs.size + 1 ∨ b = s1.heap.objs.size := by simpa using hb
      have hle : s1.heap.objs.size ≤ b := by
        rcases e' with z | z
        · rw [z]; exact Nat.le_add_right _ _
        · rw [z]; exact Nat.le_refl _
      exact I1.fpOk hle (I1.hok.fresh hle)
end TM
namespace TM
open PySem PySem.Spec PyProof.Rows L2
theorem it_enumT {W : Wd} {B : Bs} {H : Hp} {p : Addr} {vs : List V} {ds : List PyData} (h : SqT W.K (offs B H) p vs) (hd : DqAll W (offs B H) vs ds) : ItOk W B (IteT W.K p) (enumD 0 ds) H where
  go := fun i B' H' x e hx => by
    obtain ⟨x1, g1, rfl⟩ := enumD_get hx
    obtain ⟨v, a1, a2⟩ := DqAll_get (DqAll_mono e.offs hd) g1
    have l1 : SqT W.K H' p vs := seqT_mono (fun a o q => offs_sub (e.offs a o q)) h
    refine ⟨⟨vs, v, l1, a1⟩, ?_⟩
    rintro w H2 ⟨T, y1, rfl, hT, rfl, c1⟩
    have z1 := (c1 vs l1).symm.trans a1
    cases z1
    rw [Nat.zero_add]
    exact new_tup e.ok hT (.cons (.int _) (.cons a2 .nil))
  stop := fun i B' H' e hx => ⟨vs, seqT_mono (fun a o q => offs_sub (e.offs a o q)) h, by rw [DqAll_len hd, ← enumD_len 0 ds]; exact hx⟩
def sEnumA : Sl → Fr (List PyData)
  | .d (.list xs) => .ret (enumD 0 xs)
  | .d (.tuple xs) => .ret (enumD 0 xs)
  | _ => .bad
section
variable {X : Cx} {Z : WX} {a : Expr} {fa : Rn → Fr Sl} {p pos : Pos}
theorem xi_enumA {elts : List Expr} {kk : Nat} {tpos : Pos} (hm : X.mg "enumerate" = none) (ha : XE X Z a fa) (hg : Gl X "enumerate" := by rfl) (hs : starEach [a] X.env = [(false, eval a X.env)] := by rfl) :
    XI X Z (.Tuple elts kk tpos) (.Call (.Name "enumerate" p) [a] [] pos) (fun ρ => (fa ρ).bind sEnumA) :=
  (pi_enumA hg hm (pa_cons ha pa_nil hs) hs).weak fun σ H R ⟨B, ρ, hR, hw⟩ => d1 (R := fun v H1 => ∃ a xs, [v] = [.ref a] ∧ ((SqL X.K H1 a xs ∧ R (Ite X.K a) H1) ∨ (SqT X.K H1 a xs ∧ R (IteT X.K a) H1))) hR hw fun x v H1 e r q => by
    unfold sEnumA at q
    split at q
    · cases r with
      | lst h t => exact ⟨_, _, rfl, .inl ⟨SqL.of (offs_sub h), q _ H1 e (it_enum h t)⟩⟩
    · cases r with
      | tup h t => exact ⟨_, _, rfl, .inr ⟨SqT.of (offs_sub h), q _ H1 e (it_enumT (SqT.of h) t)⟩⟩
    · exact q.elim
end
end TM
namespace TM
open PySem PySem.Spec PyProof.Rows L2
def getP : PyData → List Nat → Option PyData
  | x, [] => some x
  | .list xs, j :: π => match xs[j]? with
    | some y => getP y π
    | none => none
  | .tuple xs, j :: π => match xs[j]? with
    | some y => getP y π
    | none => none
  | _, _ :: _ => none
def putP : PyData → List Nat → PyData → PyData
  | _, [], y => y
  | .list xs, j :: π, y => match xs[j]? with
    | some z => .list (xs.set j (putP z π y))
    | none => .list xs
  | .tuple xs, j :: π, y => match xs[j]? with
    | some z => .tuple (xs.set j (putP z π y))
    | none => .tuple xs
  | x, _ :: _, _ => x
def shP : Sh → List Nat → Option Sh
  | s, [] => some s
  | .l s, _ :: π => shP s π
  | .p s, 1 :: π => shP s π
  | _, _ :: _ => none
theorem shP_nil (s : Sh) : shP s [] = some s := by cases s <;> rfl
theorem getP_nil (x : PyData) : getP x [] = some x := by cases x <;> rfl
theorem putP_nil (x y : PyData) : putP x [] y = y := by cases x <;> rfl
theorem getP_app : ∀ (π : List Nat) (x : PyData) (j : Nat), getP x (π ++ [j]) = (getP x π).bind fun y => getP y [j]
  | [], x, j => by rw [getP_nil]; rfl
  | k :: π, x, j => by
    cases x with
    | list xs =>
      show (match xs[k]? with | some y => getP y (π ++ [j]) | none => none) = _
      show _ = (match xs[k]? with | some y => getP y π | none => none).bind _
      cases xs[k]? with
      | none => rfl
      | some y => exact getP_app π y j
    | tuple xs =>
      show (match xs[k]? with | some y => getP y (π ++ [j]) | none => none) = _
      show _ = (match xs[k]? with | some y => getP y π | none => none).bind _
      cases xs[k]? with
      | none => rfl
      | some y => exact getP_app π y j
    | _ => rfl
section
variable {W : Wd} {Hd H : Hp}
/-- an item of an own list, and what stands around it -/
theorem OwAll.at : ∀ {s : Sh} {vs : List V} {xs : List PyData} {fp : List Addr} {j : Nat} {x : PyData}, OwAll W Hd H s vs xs fp → xs[j]? = some x → ∃ u g1 g g2, fp = g1 ++ (g ++ g2) ∧ vs[j]? = some u ∧ Ow W Hd H s u x g ∧
    ∀ {Hd' H' : Hp} {y : PyData} {g' : List Addr}, (∀ a o, Hd a = some o → Hd' a = some o) → (∀ a ∈ g1 ++ g2, ∀ o, H a = some o → H' a = some o) → Ow W Hd' H' s u y g' → OwAll W Hd' H' s vs (xs.set j y) (g1 ++ (g' ++ g2))
  | _, _, _, _, _, _, .nil, e => by simp at e
  | s, v :: vs, x0 :: xs, _, 0, x, .cons (f1 := f1) (f2 := f2) h t, e => by
    have q : x0 = x := Option.some.inj e
    subst q
    refine ⟨v, [], f1, f2, rfl, rfl, h, fun {Hd' H' y g'} c1 c2 o => ?_⟩
    show OwAll W Hd' H' s (v :: vs) (y :: xs) (g' ++ f2)
    exact .cons o (OwAll_mono c1 (fun a ha => c2 a (by simpa using ha)) t)
  | s, v :: vs, x0 :: xs, _, j + 1, x, .cons (f1 := f1) (f2 := f2) h t, e => by
    obtain ⟨u, g1, g, g2, e1, e2, e3, k⟩ := OwAll.at (j := j) t (by simpa using e)
    refine ⟨u, f1 ++ g1, g, g2, by rw [e1, List.append_assoc], by simpa using e2, e3, fun {Hd' H' y g'} c1 c2 o => ?_⟩
    rw [List.append_assoc]
    show OwAll W Hd' H' s (v :: vs) (x0 :: xs.set j y) _
    refine .cons (Ow_mono c1 (fun a ha => c2 a ?_) h) (k c1 (fun a ha => c2 a ?_) o)
    · exact List.mem_append_left _ (List.mem_append_left _ ha)
    · rcases List.mem_append.mp ha with z | z
      · exact List.mem_append_left _ (List.mem_append_right _ z)
      · exact List.mem_append_right _ z
end
/-- v stands at the place π of slot i -/
def AtP (W : Wd) (B : Bs) (H : Hp) (σ : L2.St) (ρ : Rn) (i : Nat) (π : List Nat) (v : V) : Prop := ∃ (sh : Sh) (x : PyData) (s' : Sh) (x' : PyData) (f1 f' f2 : List Addr) (v0 : V), ρ[i]? = some (some (.own sh x)) ∧ σ[i]? = some (some v0) ∧ B.own i = f1 ++ (f' ++ f2) ∧ getP x π = some x' ∧ shP sh π = some s' ∧
  Ow W (offs B H) H s' v x' f' ∧ ∀ {Hd' H' : Hp} {y : PyData} {g : List Addr}, (∀ a o, offs B H a = some o → Hd' a = some o) → (∀ a ∈ f1 ++ f2, ∀ o, H a = some o → H' a = some o) → Ow W Hd' H' s' v y g → Ow W Hd' H' sh v0 (putP x π y) (f1 ++ (g ++ f2))
section
variable {W : Wd} {Z : WX} {B : Bs} {H H' : Hp} {σ : L2.St} {ρ : Rn} {i : Nat} {π : List Nat} {v : V}
theorem AtP.mono (h : AtP W B H σ ρ i π v) (e : Ext B H H') (ok : Bok B H) : AtP W B H' σ ρ i π v := by
  obtain ⟨sh, x, s', x', f1, f', f2, v0, h1, h2, h3, h4, h5, h6, h7⟩ := h
  have mem : ∀ a, a ∈ f1 ++ (f' ++ f2) → a ∈ B.own i := fun a ha => by rw [h3]; exact ha
  refine ⟨sh, x, s', x', f1, f', f2, v0, h1, h2, h3, h4, h5, Ow.ext e ok (fun a ha => ⟨i, mem a (List.mem_append_right _ (List.mem_append_left _ ha))⟩) h6, fun c1 c2 o => h7 (fun a o q => c1 a o (e.offs a o q)) (fun a ha o q => c2 a ha o (e.same a o (fun z => ok.mv_own z i (mem a ?_)) q)) o⟩
  rcases List.mem_append.mp ha with z | z
  · exact List.mem_append_left _ z
  · exact List.mem_append_right _ (List.mem_append_right _ z)
end
end TM
namespace TM
open PySem PySem.Spec PyProof.Rows L2
section
variable {W : Wd} {Z : WX} {B : Bs} {H H' : Hp} {σ : L2.St} {ρ : Rn} {i : Nat} {π : List Nat} {v : V}
theorem shP_snd {s : Sh} : ∀ (π : List Nat) (sh : Sh), shP sh π = some (.p s) → shP sh (π ++ [1]) = some s := by
  intro π
  induction π with
  | nil =>
    intro sh e
    rw [shP_nil] at e
    cases e
    exact shP_nil s
  | cons m π ih =>
    intro sh e
    cases sh with
    | l s0 => exact ih s0 e
    | p s0 =>
      match m, e with
      | 1, e => exact ih s0 e
    | _ => cases e
theorem putP_snd {y0 y1 z : PyData} : ∀ (π : List Nat) (x : PyData), getP x π = some (.tuple [y0, y1]) → putP x (π ++ [1]) z = putP x π (.tuple [y0, z]) := by
  intro π
  induction π with
  | nil =>
    intro x e
    rw [getP_nil] at e
    cases e
    rw [putP_nil]
    show PyData.tuple ([y0, y1].set 1 (putP y1 [] z)) = _
    rw [putP_nil]
    rfl
  | cons m π ih =>
    intro x e
    cases x with
    | list xs =>
      have e' : (match xs[m]? with | some y => getP y π | none => none) = some (.tuple [y0, y1]) := e
      show (match xs[m]? with | some w => PyData.list (xs.set m (putP w (π ++ [1]) z)) | none => .list xs) = (match xs[m]? with | some w => PyData.list (xs.set m (putP w π (.tuple [y0, z]))) | none => .list xs)
      cases q : xs[m]? with
      | none => rfl
      | some w =>
        rw [q] at e'
        show PyData.list _ = PyData.list _
        rw [ih w e']
    | tuple xs =>
      have e' : (match xs[m]? with | some y => getP y π | none => none) = some (.tuple [y0, y1]) := e
      show (match xs[m]? with | some w => PyData.tuple (xs.set m (putP w (π ++ [1]) z)) | none => .tuple xs) = (match xs[m]? with | some w => PyData.tuple (xs.set m (putP w π (.tuple [y0, z]))) | none => .tuple xs)
      cases q : xs[m]? with
      | none => rfl
      | some w =>
        rw [q] at e'
        show PyData.tuple _ = PyData.tuple _
        rw [ih w e']
    | _ => cases e
theorem AtP.snd {s : Sh} {y0 y1 : PyData} {sh : Sh} {x : PyData} (h : AtP W B H σ ρ i π v) (hx : ρ[i]? = some (some (.own sh x))) (hs : shP sh π = some (.p s)) (hy : getP x π = some (.tuple [y0, y1])) :
    ∃ a u0 u1, v = .ref a ∧ SqT W.K H a [u0, u1] ∧ AtP W B H σ ρ i (π ++ [1]) u1 := by
  obtain ⟨sh', x0, s', x', f1, f', f2, v0, h1, h2, h3, h4, h5, h6, h7⟩ := h
  rw [h1] at hx
  cases hx
  rw [h5] at hs
  cases hs
  rw [h4] at hy
  cases hy
  cases h6 with
  | p ht hd t =>
    rename_i a u0 u1
    refine ⟨a, u0, u1, rfl, SqT.of (offs_sub ht), sh, x, s, y1, f1, f', f2, v0, h1, h2, h3, ?_, shP_snd π sh h5, t, fun {Hd' H' z g'} c1 c2 o => ?_⟩
    · rw [getP_app, h4]
      show getP y1 [] = some y1
      exact getP_nil y1
    · rw [putP_snd π x h4]
      exact h7 c1 c2 (.p (c1 _ _ ht) (Dq_mono c1 hd) o)
/-- a thing of slot i is written at a -/
theorem Rho.write {a : Addr} {o' : HO} {y : PyData} {sh : Sh} {x : PyData} {s' : Sh} {f1 f2 : List Addr} {v0 : V} (hR : Rho W B H σ ρ) (h1 : ρ[i]? = some (some (.own sh x))) (h2 : σ[i]? = some (some v0)) (h3 : B.own i = f1 ++ ([a] ++ f2))
    (h7 : ∀ {Hd' H' : Hp} {y : PyData} {g : List Addr}, (∀ a o, offs B H a = some o → Hd' a = some o) → (∀ a ∈ f1 ++ f2, ∀ o, H a = some o → H' a = some o) → Ow W Hd' H' s' (.ref a) y g → Ow W Hd' H' sh v0 (putP x π y) (f1 ++ (g ++ f2)))
    (nc : NoCode H a) (new : Ow W (offs B (upd H a o')) (upd H a o') s' (.ref a) y [a]) : Rho W B (upd H a o') σ (ρ.set i (some (.own sh (putP x π y)))) ∧ ExS B H B (upd H a o') := by
  have ha : a ∈ B.own i := by rw [h3]; simp
  have nb : ¬ B.mv a := fun z => hR.ok.mv_own z i ha
  have sm : ∀ b o, b ≠ a → H b = some o → upd H a o' b = some o := fun b o hb q => by rw [upd_ne hb]; exact q
  have of : ∀ b o, offs B H b = some o → offs B (upd H a o') b = some o := fun b o q => by
    obtain ⟨q0, q1⟩ := offs_some q
    exact offs_at (sm b o (fun z => q1 (by rw [z]; exact .inr (.inr ⟨i, ha⟩))) q0) q1
  have kp : ∀ b, H b ≠ none → upd H a o' b ≠ none := fun b q => by
    by_cases z : b = a
    · rw [z, upd_same]; exact fun z => nomatch z
    · rw [upd_ne z]; exact q
  have ok : Bok B (upd H a o') := by
    refine ⟨fun b hb => ?_, hR.ok.nown, fun b hb => kp b (hR.ok.hid b hb), fun j b hb => kp b (hR.ok.own j b hb), hR.ok.nd, hR.ok.apart, hR.ok.nh, fun b q hb => ?_, hR.ok.ntab, fun c q h => hR.ok.cod c q (by
      by_cases z : c = a
      · subst z
        exact (new.fpC _ List.mem_cons_self _ _ h).elim
      · rw [upd_ne z] at h
        exact h)⟩
    rotate_left
    · exact (hR.ok.tab b _ hb).up (fun _ z => by rw [upd_ne fun z => (hR.ok.ntab b ⟨_, hb⟩).1 i (by rw [z]; exact ha)]; exact z) fun c z => by rw [upd_ne fun y => nc c (hcod c _) (by rw [← y]; exact z)]; exact z
    obtain ⟨cs, i', r, m, n, k1, k2, k3⟩ := hR.ok.bag b hb
    obtain ⟨n1, n2⟩ := hR.ok.nown b hb i
    exact ⟨cs, i', r, m, n, sm b _ (fun z => n1 (by rw [z]; exact ha)) k1, sm _ _ (fun z => n2 (by rw [z]; exact ha)) k2, k3⟩
  refine ⟨⟨ok, by rw [List.length_set]; exact hR.len, fun j s ej => ?_⟩, rfl, rfl, rfl, fun _ z => z, fun _ z => .inl z, fun j b z => .inl ⟨j, z⟩, fun b o _ q1 q => sm b o (fun z => q1 i (by rw [z]; exact ha)) q, ok⟩
  rcases get_set_ne ej with ⟨q1, q2⟩ | ⟨q1, q2⟩
  · cases q2
    subst q1
    refine ⟨v0, h2, ?_⟩
    show Ow W (offs B (upd H a o')) (upd H a o') sh v0 (putP x π y) (B.own i)
    rw [h3]
    refine h7 of (fun b hb o q => sm b o (fun z => ?_) q) new
    have nd := hR.ok.nd i
    rw [h3] at nd
    rw [z] at hb
    rcases List.mem_append.mp hb with k | k
    · exact (List.nodup_append.mp nd).2.2 a k a (by simp) rfl
    · have nd2 := (List.nodup_append.mp nd).2.1
      exact (List.nodup_append.mp nd2).2.2 a (by simp) a k rfl
  · obtain ⟨w, k1, k2⟩ := hR.get j s q2
    refine ⟨w, k1, ?_⟩
    cases s with
    | d x => exact Dq_mono of k2
    | own sh2 x2 => exact Ow_mono of (fun b hb o q => sm b o (fun z => hR.ok.apart j i a (Ne.symm q1) (by rw [← z]; exact hb) ha) q) k2
    | bag => exact k2
    | kp _ _ => exact RdI.fmono (W := W) isFn k2 of rfl
    | tb _ _ => exact k2
end
end TM
namespace TM
open PySem PySem.Spec PyProof.Rows L2
inductive FArg where
  | dat (f : Rn → Fr Sl)
  | fre (s : Sh) (f : Rn → Fr PyData)
def evalF : List FArg → Rn → Fr (List Sl)
  | [], _ => .ret []
  | .dat f :: r, ρ => (f ρ).bind fun s => (toD s).bind fun x => (evalF r ρ).bind fun xs => .ret (.d x :: xs)
  | .fre s f :: r, ρ => (f ρ).bind fun x => (evalF r ρ).bind fun xs => .ret (.own s x :: xs)
/-- what came out: F, the fresh places in all -/
inductive OkF (W : Wd) (Hd H : Hp) : List V → List Sl → List Addr → Prop
  | nil : OkF W Hd H [] [] []
  | dat {v : V} {x : PyData} {vs : List V} {ss : List Sl} {F : List Addr} : Dq W Hd v x → OkF W Hd H vs ss F → OkF W Hd H (v :: vs) (.d x :: ss) F
  | fre {v : V} {s : Sh} {x : PyData} {fp : List Addr} {vs : List V} {ss : List Sl} {F : List Addr} : Ow W Hd H s v x fp → OkF W Hd H vs ss F → OkF W Hd H (v :: vs) (.own s x :: ss) (fp ++ F)
def tAF (W : Wd) (Z : WX) (fs : List FArg) : TA := fun σ H Q => ∃ B ρ, Rho W B H σ ρ ∧ (evalF fs ρ).wpx (EE W Z B H σ) fun ss => ∀ vs H' F, Ext B H H' → (∀ a ∈ F, H a = none) → F.Nodup → OkF W (offx F (offs B H')) H' vs ss F → Q vs H'
abbrev XAF (X : Cx) (Z : WX) (es : List Expr) (fs : List FArg) : Prop := PA X es (tAF X.wd Z fs)
theorem OkF.mono {W : Wd} {Hd Hd' H H' : Hp} (c1 : ∀ a o, Hd a = some o → Hd' a = some o) : ∀ {vs : List V} {ss : List Sl} {F : List Addr}, (∀ a ∈ F, ∀ o, H a = some o → H' a = some o) → OkF W Hd H vs ss F → OkF W Hd' H' vs ss F
  | _, _, _, _, .nil => .nil
  | _, _, _, c2, .dat h t => .dat (Dq_mono c1 h) (OkF.mono c1 c2 t)
  | _, _, _, c2, .fre h t => .fre (Ow_mono c1 (fun a ha => c2 a (List.mem_append_left _ ha)) h) (OkF.mono c1 (fun a ha => c2 a (List.mem_append_right _ ha)) t)
theorem OkF.len {W : Wd} {Hd H : Hp} : ∀ {vs : List V} {ss : List Sl} {F : List Addr}, OkF W Hd H vs ss F → vs.length = ss.length
  | _, _, _, .nil => rfl
  | _, _, _, .dat _ t => congrArg Nat.succ t.len
  | _, _, _, .fre _ t => congrArg Nat.succ t.len
section
variable {X : Cx} {Z : WX} {a : Expr} {es : List Expr} {f : Rn → Fr Sl} {ff : Rn → Fr PyData} {s : Sh} {fs : List FArg}
theorem xaf_nil : XAF X Z [] [] := pa_nil.weak fun σ H Q ⟨B, ρ, hR, hw⟩ => hw [] H [] (Ext.refl hR.ok) (fun a ha => nomatch ha) List.nodup_nil .nil
theorem xaf_dat (ha : XE X Z a f) (hr : XAF X Z es fs) (hs : starEach (a :: es) X.env = (false, eval a X.env) :: starEach es X.env := by rfl) : XAF X Z (a :: es) (.dat f :: fs) := (pa_cons ha hr hs).weak fun σ H Q ⟨B, ρ, hR, hw⟩ =>
  d1 hR hw fun y v H1 e r q => by
    obtain ⟨x, rfl, q⟩ := wp_toD (Fr.wpx_bind.mp q)
    refine ⟨B, ρ, hR.mono e, Fr.wpx_mono (fun _ z => EE.mono e z) (fun ss k vs H' F e2 hf nd ok => ?_) (Fr.wpx_bind.mp q)⟩
    refine k (v :: vs) H' F (e.trans e2) (fun a ha => e.old (hf a ha)) nd (.dat (Dq_mono (fun a o z => offx_at (e2.offs a o z) fun m => ?_) r) ok)
    have := offs_sub z
    rw [hf a m] at this
    cases this
end
def takeO (B : Bs) (i : Nat) (fp : List Addr) : Bs := ⟨B.bag, B.cel, fun a => (B.hid a ∧ a ∉ fp) ∨ a ∈ B.own i, fun j => if j = i then fp else B.own j, B.tab⟩
section
variable {W : Wd} {B : Bs} {H H' : Hp} {σ : L2.St} {ρ : Rn} {i : Nat} {fp : List Addr} {s : Sh} {v : V} {x : PyData}
theorem takeO_off (hh : ∀ a ∈ fp, B.hid a) (a : Addr) : (takeO B i fp).off a ↔ B.off a := by
  constructor
  · rintro (h | (h | h) | ⟨j, h⟩)
    · exact .inl h
    · exact .inr (.inl h.1)
    · exact .inr (.inr ⟨i, h⟩)
    · by_cases q : j = i
      · rw [show (takeO B i fp).own j = fp from if_pos q] at h
        exact .inr (.inl (hh a h))
      · rw [show (takeO B i fp).own j = B.own j from if_neg q] at h
        exact .inr (.inr ⟨j, h⟩)
  · rintro (h | h | ⟨j, h⟩)
    · exact .inl h
    · by_cases q : a ∈ fp
      · exact .inr (.inr ⟨i, by rw [show (takeO B i fp).own i = fp from if_pos rfl]; exact q⟩)
      · exact .inr (.inl (.inl ⟨h, q⟩))
    · by_cases q : j = i
      · rw [q] at h
        exact .inr (.inl (.inr h))
      · exact .inr (.inr ⟨j, by rw [show (takeO B i fp).own j = B.own j from if_neg q]; exact h⟩)
theorem Rho.take (r : Rho W B H σ ρ) (hh : ∀ a ∈ fp, B.hid a) (nd : fp.Nodup) (hb : ∀ b, B.bag = some b → b ∉ fp ∧ B.cel ∉ fp) (h : Ow W (offs B H) H s v x fp) (i : Nat) : Rho W (takeO B i fp) H (σ.set i (some v)) (ρ.set i (some (.own s x))) := by
  have own : ∀ j, (takeO B i fp).own j = if j = i then fp else B.own j := fun j => rfl
  have no : ∀ j a, a ∈ B.own j → a ∉ fp := fun j a ha z => r.ok.nh j a ha (hh a z)
  have ok : Bok (takeO B i fp) H := by
    refine ⟨r.ok.bag, fun b hb' j => ?_, fun a ha => ha.elim (fun z => r.ok.hid a z.1) (r.ok.own i a), fun j a ha => ?_, fun j => ?_, fun j k a hjk h1 h2 => ?_, fun j a ha hd => ?_, r.ok.tab, fun a ha => ⟨fun j z => by rw [own j] at z; split at z <;> first | exact (r.ok.ntab a ha).2 (hh a z) | exact (r.ok.ntab a ha).1 j z, fun z => z.elim (fun z => (r.ok.ntab a ha).2 z.1) ((r.ok.ntab a ha).1 i)⟩, fun c q h => ⟨fun j z => by rw [own j] at z; split at z <;> first | exact ((r.ok.cod c q h).2 (hh c z)).elim | exact (r.ok.cod c q h).1 j z, fun z => z.elim (fun z => (r.ok.cod c q h).2 z.1) ((r.ok.cod c q h).1 i)⟩⟩
    · rw [own j]
      split
      · exact hb b hb'
      · exact r.ok.nown b hb' j
    · rw [own j] at ha
      split at ha
      · exact r.ok.hid a (hh a ha)
      · exact r.ok.own j a ha
    · rw [own j]
      split
      · exact nd
      · exact r.ok.nd j
    · rw [own j] at h1
      rw [own k] at h2
      split at h1
      · rename_i q1
        rw [if_neg (fun z => hjk (q1.trans z.symm))] at h2
        exact no k a h2 h1
      · split at h2
        · exact no j a h1 h2
        · exact r.ok.apart j k a hjk h1 h2
    · rw [own j] at ha
      split at ha
      · rcases hd with hd | hd
        · exact hd.2 ha
        · exact no i a hd ha
      · rename_i q
        rcases hd with hd | hd
        · exact r.ok.nh j a ha hd.1
        · exact r.ok.apart j i a q ha hd
  refine ⟨ok, by rw [List.length_set, List.length_set]; exact r.len, fun j s' ej => ?_⟩
  have hl : j < σ.length := by
    have := (List.getElem?_eq_some_iff.mp ej).1
    rw [List.length_set, r.len] at this
    exact this
  have oc : offs (takeO B i fp) H = offs B H := offs_congr (takeO_off hh)
  rcases get_set_ne ej with ⟨q1, q2⟩ | ⟨q1, q2⟩
  · cases q2
    subst q1
    refine ⟨v, List.getElem?_set_self hl, ?_⟩
    show Ow W (offs (takeO B i fp) H) H s v x ((takeO B i fp).own i)
    rw [oc, show (takeO B i fp).own i = fp from if_pos rfl]
    exact h
  · obtain ⟨w, h1, h2⟩ := r.get j s' q2
    refine ⟨w, by rw [List.getElem?_set_ne q1]; exact h1, ?_⟩
    cases s' with
    | d y => show Dq W (offs (takeO B i fp) H) w y; rw [oc]; exact h2
    | own sh y =>
      show Ow W (offs (takeO B i fp) H) H sh w y ((takeO B i fp).own j)
      rw [oc, show (takeO B i fp).own j = B.own j from if_neg (Ne.symm q1)]
      exact h2
    | bag => exact h2
    | kp _ _ => exact RdI.fmono (W := W) isFn h2 (fun a o z => by rw [oc]; exact z) rfl
    | tb _ _ => exact h2
/-- the slots are filled one after another -/
def fillR : List Nat → List Sl → Rn → Rn
  | i :: is, s :: ss, ρ => fillR is ss (ρ.set i (some s))
  | _, _, ρ => ρ
def fillV : List Nat → List V → L2.St → L2.St
  | i :: is, v :: vs, σ => fillV is vs (σ.set i (some v))
  | _, _, σ => σ
theorem fill_ok {Hd : Hp} : ∀ {is : List Nat} {vs : List V} {ss : List Sl} {F : List Addr} {B : Bs} {σ : L2.St} {ρ : Rn}, Rho W B H σ ρ → (∀ a ∈ F, B.hid a) → F.Nodup → (∀ b, B.bag = some b → b ∉ F ∧ B.cel ∉ F) → (∀ a o, Hd a = some o → offs B H a = some o) → OkF W Hd H vs ss F →
    ∃ B', Rho W B' H (fillV is vs σ) (fillR is ss ρ) ∧ B'.bag = B.bag ∧ B'.cel = B.cel ∧ B'.tab = B.tab ∧ (∀ a, B'.off a ↔ B.off a) ∧ (∀ j a, a ∈ B'.own j → (∃ k, a ∈ B.own k) ∨ a ∈ F)
  | [], vs, ss, F, B, σ, ρ, R, hh, nd, hb, hd, ok => ⟨B, by unfold fillV fillR; exact R, rfl, rfl, rfl, fun _ => Iff.rfl, fun j a h => .inl ⟨j, h⟩⟩
  | i :: is, vs, ss, F, B, σ, ρ, R, hh, nd, hb, hd, ok => by
    cases ok with
    | nil => exact ⟨B, by unfold fillV fillR; exact R, rfl, rfl, rfl, fun _ => Iff.rfl, fun j a h => .inl ⟨j, h⟩⟩
    | dat h t =>
      have R1 := R.set (Dq_mono hd h) i
      obtain ⟨B', R', b1, b2, b5, b3, b4⟩ := fill_ok (is := is) R1 (fun a ha => .inl (hh a ha)) nd hb (fun a o q => by rw [offs_congr dropO_off]; exact hd a o q) t
      refine ⟨B', R', b1, b2, b5, fun a => (b3 a).trans (dropO_off a), fun j a ha => ?_⟩
      rcases b4 j a ha with ⟨k, hk⟩ | z
      · refine .inl ⟨k, ?_⟩
        have own : (dropO B i).own k = if k = i then [] else B.own k := rfl
        rw [own] at hk
        split at hk
        · cases hk
        · exact hk
      · exact .inr z
    | fre h t =>
      rename_i fq _ _ F'
      obtain ⟨n1, n2, n3⟩ := List.nodup_append.mp nd
      have hh1 : ∀ a ∈ fq, B.hid a := fun a ha => hh a (List.mem_append_left _ ha)
      have R1 := R.take hh1 n1 (fun b hb' => ⟨fun z => (hb b hb').1 (List.mem_append_left _ z), fun z => (hb b hb').2 (List.mem_append_left _ z)⟩) (Ow_mono hd (fun _ _ _ q => q) h) i
      obtain ⟨B', R', b1, b2, b5, b3, b4⟩ := fill_ok (is := is) R1 (fun a ha => .inl ⟨hh a (List.mem_append_right _ ha), fun z => n3 a z a ha rfl⟩) n2 (fun b hb' => ⟨fun z => (hb b hb').1 (List.mem_append_right _ z), fun z => (hb b hb').2 (List.mem_append_right _ z)⟩) (fun a o q => by rw [offs_congr (takeO_off hh1)]; exact hd a o q) t
      refine ⟨B', R', b1, b2, b5, fun a => (b3 a).trans (takeO_off hh1 a), fun j a ha => ?_⟩
      rcases b4 j a ha with ⟨k, hk⟩ | z
      · have own : (takeO B i fq).own k = if k = i then fq else B.own k := rfl
        rw [own] at hk
        split at hk
        · exact .inr (List.mem_append_left _ hk)
        · exact .inl ⟨k, hk⟩
      · exact .inr (List.mem_append_right _ z)
theorem fill_all {is : List Nat} {vs : List V} {ss : List Sl} {F : List Addr} (R : Rho W B H σ ρ) (e : Ext B H H') (hf : ∀ a ∈ F, H a = none) (nd : F.Nodup) (ok : OkF W (offx F (offs B H')) H' vs ss F) (hF : ∀ a ∈ F, H' a ≠ none) (hC : ∀ a ∈ F, NoCode H' a) :
    ∃ B', Rho W B' H' (fillV is vs σ) (fillR is ss ρ) ∧ ExS B H B' H' := by
  have nof := fresh_off R.ok hf
  have okB : Bok (hideF B F) H' := hideF_ok e.ok hF nof hC
  have R1 : Rho W (hideF B F) H' σ ρ := R.hide hf e.same okB
  obtain ⟨B', R', b1, b2, b5, b3, b4⟩ := fill_ok (is := is) R1 (fun a ha => .inr ha) nd (fun b hb => ⟨fun z => nof b z (.inl (.inl hb)), show B.cel ∉ F from fresh_cel R.ok hf b hb⟩) (fun a o q => by
    obtain ⟨q0, q1⟩ := offx_some q
    obtain ⟨q2, q3⟩ := offs_some q0
    exact offs_at q2 fun z => ((hideF_off a).mp z).elim q3 q1) ok
  have no : ∀ j a, a ∈ B'.own j → (∃ k, a ∈ B.own k) ∨ H a = none := fun j a h => (b4 j a h).imp id (hf a)
  refine ⟨B', R', b1, b2, b5, sub_of R.ok (fun a h => (b3 a).mpr ((hideF_off a).mpr (.inl h))) no, fun a h => ((hideF_off a).mp ((b3 a).mp h)).imp id (hf a), no, fun a o h1 _ h => e.same a o h1 h, R'.ok⟩
theorem OkF.fpC {Hd : Hp} : ∀ {vs : List V} {ss : List Sl} {F : List Addr}, OkF W Hd H vs ss F → ∀ a ∈ F, NoCode H a
  | _, _, _, .nil => fun a ha => nomatch ha
  | _, _, _, .dat _ t => t.fpC
  | _, _, _, .fre h t => fun a ha => (List.mem_append.mp ha).elim (h.fpC a) (t.fpC a)
theorem OkF.fpS {Hd : Hp} : ∀ {vs : List V} {ss : List Sl} {F : List Addr}, OkF W Hd H vs ss F → ∀ a ∈ F, H a ≠ none
  | _, _, _, .nil => fun a ha => nomatch ha
  | _, _, _, .dat _ t => t.fpS
  | _, _, _, .fre h t => fun a ha => (List.mem_append.mp ha).elim (h.fpS a) (t.fpS a)
end
/-- a, b = x, y or a, b, c = x, y, z -/
def gParF (is : List Nat) (fs : List FArg) : Rn → Fr Out := fun ρ => (evalF fs ρ).bindX ρ fun ss => .ret (.nx (fillR is ss ρ))
theorem evalF_len : ∀ {fs : List FArg} {ρ : Rn} {E : PyData → Prop} {P : List Sl → Prop}, (evalF fs ρ).wpx E P → (evalF fs ρ).wpx E fun ss => ss.length = fs.length ∧ P ss
  | [], ρ, E, P, h => ⟨rfl, h⟩
  | .dat f :: r, ρ, E, P, h => by
    refine Fr.wpx_bind.mpr (Fr.wpx_mono (fun _ z => z) (fun s q => ?_) (Fr.wpx_bind.mp h))
    refine Fr.wpx_bind.mpr (Fr.wpx_mono (fun _ z => z) (fun x q => ?_) (Fr.wpx_bind.mp q))
    exact Fr.wpx_bind.mpr (Fr.wpx_mono (fun _ z => z) (fun xs q => ⟨congrArg Nat.succ q.1, q.2⟩) (evalF_len (Fr.wpx_bind.mp q)))
  | .fre s f :: r, ρ, E, P, h => by
    refine Fr.wpx_bind.mpr (Fr.wpx_mono (fun _ z => z) (fun x q => ?_) (Fr.wpx_bind.mp h))
    exact Fr.wpx_bind.mpr (Fr.wpx_mono (fun _ z => z) (fun xs q => ⟨congrArg Nat.succ q.1, q.2⟩) (evalF_len (Fr.wpx_bind.mp q)))
section
variable {X : Cx} {Z : WX} {a b c : Expr} {pos : Pos} {f1 f2 f3 : FArg}
theorem xs_par2 {i j : Nat} {x y : Str} {px py pt : Pos} {kt k2 : Nat} {pt2 : Pos} (hc : X.calm = true) (hN : X.N.Nodup) (ha : XAF X Z [a, b] [f1, f2]) (hi : X.N[i]? = some x := by rfl) (hj : X.N[j]? = some y := by rfl) (hij : i ≠ j := by decide)
    (hx : X.env.scope.names.lookup x = some .local := by rfl) (hy : X.env.scope.names.lookup y = some .local := by rfl)
    (hw : swappedStores [.Tuple [.Name x px, .Name y py] kt pt] (.Tuple [a, b] k2 pt2) X.env = pure (some [x, y]) := by rfl)
    (hs : swapsWithSole [.Tuple [.Name x px, .Name y py] kt pt] (.Tuple [a, b] k2 pt2) pos.line X.env = pure false := by rfl) :
    XS X Z (.Assign [.Tuple [.Name x px, .Name y py] kt pt] (.Tuple [a, b] k2 pt2) pos) (gParF [i, j] [f1, f2]) := (ps_par hc hN hi hj hij hx hy ha hw hs).weak fun D σ H ⟨B, ρ, hR, hw⟩ =>
  ⟨B, ρ, hR, Fr.wpx_mono (fun _ z => okX_ee hR z) (fun ss ⟨hl, q⟩ vs H' F e hf nd ok => by
    obtain ⟨B', R', ex⟩ := fill_all (is := [i, j]) hR e hf nd ok ok.fpS ok.fpC
    have hv : vs.length = 2 := ok.len.trans hl
    match vs, hv with
    | [v, w], _ => exact ⟨v, w, rfl, q B' _ H' ex R'⟩) (evalF_len (wp_bindX hw))⟩
end
end TM
namespace TM
open PySem PySem.Spec PyProof.Rows L2
def entV (e : DictEntry) : Option (Str × Str) := match e.key, e.val with
  | .str k _, .str v _ => some (k, v)
  | _, _ => none
/-- what the head shows of it, beside its keys -/
def kvB (K : PySem.W.Frag) (d : Addr) (kvs : List (Str × Str)) : Bool := match K.lookup d with
  | some ⟨_, _, .dict es _, _⟩ => decide (es.toList.map entV = kvs.map some)
  | _ => false
structure KdV (K : PySem.W.Frag) (w : World) (mg : Str → Option Value) (x : Str) (kvs : List (Str × Str)) (d : Addr) : Prop where
  kd : Kd K w mg x (kvs.map (·.1)) d
  kv : kvB K d kvs = true
  nd : (kvs.map (·.1)).Nodup
theorem entV_eq {e : DictEntry} {k v : Str} (h : entV e = some (k, v)) : ∃ t t', e.key = .str k t ∧ e.val = .str v t' := by
  unfold entV at h
  split at h
  · rename_i a b c d e1 e2
    cases h
    exact ⟨_, _, e1, e2⟩
  · cases h
theorem KdV.at {K : PySem.W.Frag} {w : World} {mg : Str → Option Value} {x : Str} {kvs : List (Str × Str)} {d : Addr} (D : KdV K w mg x kvs d) : ∃ es n, KDict K w d es n ∧ es.toList.map entV = kvs.map some := by
  obtain ⟨es, n, kd⟩ := D.kd.kd
  have h := D.kv
  unfold kvB at h
  rw [kd.at_] at h
  exact ⟨es, n, kd, of_decide_eq_true h⟩
section
variable {X : Cx} {Z : WX} {x : Str} {kvs : List (Str × Str)} {d : Addr} {p pos apos cpos : Pos}
variable {a : Expr} {fa : Rn → Fr Sl}
theorem KdV.get {K : PySem.W.Frag} {w : World} {mg : Str → Option Value} (D : KdV K w mg x kvs d) {z v : Str} (h : kvs.lookup z = some v) : ∃ t, PySem.W.nsIn K d z = some (some (.str v t)) := by
  obtain ⟨es, n, kd, he⟩ := D.at
  unfold PySem.W.nsIn
  rw [kd.at_]
  show ∃ t, (match es.toList.find? (·.key.isStr z) with
    | some e => some (some e.val)
    | none => if es.toList.any (·.refKey) then none else some none) = some (some (.str v t))
  have aux : ∀ {l : List DictEntry} {kvs : List (Str × Str)}, l.map entV = kvs.map some → kvs.lookup z = some v → ∃ e t, l.find? (·.key.isStr z) = some e ∧ e.val = .str v t := by
    intro l
    induction l with
    | nil =>
      intro kvs h1 h2
      cases kvs with
      | nil => cases h2
      | cons _ _ => cases h1
    | cons e l ih =>
      intro kvs h1 h2
      cases kvs with
      | nil => cases h1
      | cons kv kvs =>
        obtain ⟨k, u⟩ := kv
        have h' : entV e :: l.map entV = some (k, u) :: kvs.map some := h1
        injection h' with g1 g2
        obtain ⟨t, t', e1, e2⟩ := entV_eq g1
        have e3 : e.key.isStr z = (k == z) := by rw [e1]; rfl
        rw [List.find?_cons, e3]
        rw [List.lookup_cons] at h2
        cases hz : (k == z) with
        | true =>
          have hz' : (z == k) = true := by rw [beq_iff_eq] at hz ⊢; exact hz.symm
          rw [hz'] at h2
          cases h2
          exact ⟨e, t', rfl, e2⟩
        | false =>
          have hz' : (z == k) = false := by
            cases hq : (z == k) with
            | false => rfl
            | true =>
              rw [beq_iff_eq] at hq
              rw [hq, beq_self_eq_true] at hz
              cases hz
          rw [hz'] at h2
          exact ih g2 h2
  obtain ⟨e, t, h1, h2⟩ := aux he h
  rw [h1]
  exact ⟨t, congrArg (fun u => some (some u)) h2⟩
end
end TM
namespace TM
open PySem PySem.Spec PyProof.Rows L2
abbrev FnP (K : PySem.W.Frag) (x : Str) (st : Stmt) (f : Addr) (fd : FuncData) : Prop := FunD K x x (defArgs st) (defBody st) (defScope st) [] [] f fd
@[irreducible] def drawS : List Sl → Fr Sl
  | [.bag, .d (.int n)] => if n < 1073741824 then .draw n fun i => .ret (.d (.int i)) else .bad
  | _ => .bad
theorem wp_drawS {ss : List Sl} {E : PyData → Prop} {P : Sl → Prop} (h : (drawS ss).wpx E P) : ∃ n : Int, ss = [.bag, .d (.int n)] ∧ n < 1073741824 ∧ 0 < n ∧ ∀ i, 0 ≤ i → i < n → P (.d (.int i)) := by
  unfold drawS at h
  split at h
  · split at h
    · exact ⟨_, rfl, ‹_›, h.1, h.2⟩
    · exact h.elim
  · exact h.elim
/-- the bag changed -/
theorem bag_ext {B : Bs} {H : Hp} {b : Addr} {cs : List Int} {i r m n : Int} (ok : Bok B H) (hb : B.bag = some b) (hc : H B.cel = some (.lst (cs.map V.int))) (h0 : 0 ≤ i ∧ 0 ≤ r ∧ 0 ≤ m ∧ m < 2147483549) (hbH : ∃ o, H b = some o) (hne : B.cel ≠ b) :
    Ext B H (upd H b (.lst [.ref B.cel, .int i, .int r, .int m, .int n])) := by
  have sm : ∀ a o, ¬ B.mv a → H a = some o → upd H b (.lst [.ref B.cel, .int i, .int r, .int m, .int n]) a = some o := fun a o h1 h => by
    rw [upd_ne fun z => h1 (.inl (by rw [z]; exact hb))]
    exact h
  refine ⟨sm, ok.ext0 sm ⟨fun b' hb' => ?_, fun a q ha => ?_⟩⟩
  rotate_left
  · obtain ⟨_, _, _, _, _, k, _⟩ := ok.bag b hb
    exact (ok.tab a q ha).up (fun _ z => by rw [upd_ne fun y => by rw [y, k] at z; cases z]; exact z) fun c z => by rw [upd_ne fun y => noCode k code_lst c (hcod c q) (by rw [← y]; exact z)]; exact z
  rw [hb] at hb'
  cases hb'
  exact ⟨cs, i, r, m, n, upd_same, by rw [upd_ne hne]; exact hc, h0⟩
def ofS : List Sl → Fr Sl := fnSem 2 (gRet (TM.f2 sIx (fVar 1) (fCall 2 drawS (fCons (fVar 0) (fCons (f1 sLen (fVar 1)) fNil)))))
def spBag (K : PySem.W.Frag) : Sp := fun vs H Q _ => ∃ (a : Addr) (ns : List Int), vs = [.ref a] ∧ SqL K H a (ns.map V.int) ∧
  ∀ (b c : Addr) (cs : List Int) (m : Int) (H' : Hp), Same H H' → H b = none → H c = none → H' b = some (.lst [.ref c, .int 0, .int 0, .int m, .int 0]) → H' c = some (.lst (cs.map V.int)) → 0 ≤ m → m < 2147483549 → Q (.ref b) H'
theorem cutV_ints (ns : List Int) (lo hi : Option Int) : ∃ ms : List Int, cutV (ns.map V.int) lo hi = ms.map V.int := by
  unfold cutV
  exact ⟨_, by rw [← List.map_drop, ← List.map_take]⟩
theorem same_upd {H : Hp} {p : Addr} {o : HO} (h : H p = none) : Same H (upd H p o) := fun b x e => by
  rw [upd_ne (ne_of_none e h)]
  exact e
theorem fn_bad {P : Program} {w : World} {K : PySem.W.Frag} {mg : Str → Option Value} {base : Heap} {W : Wd} {k m : Nat} {f : Addr} {fd : FuncData} {ps : List Str} (hm : ps.length = m) : FnOk P w K mg base (L2.CX P w) k f fd ps (spD W m fun _ => .bad) :=
  ⟨fun vs H Q E h => h.1.trans hm.symm, fun A outer s H args us vs Q E hr he hb hv hs => by
    obtain ⟨_, B, ss, _, _, _, hw⟩ := hs
    exact hw.elim⟩
def spLaw (K : PySem.W.Frag) : Sp := fun vs H Q _ => ∃ (a : Addr) (ns : List Int), vs = [.ref a] ∧ SqL K H a (ns.map V.int) ∧ ∀ H', Q (.bl true) H'
/-- the environment behind the bag's making -/
def bagR (n : Nat) : Rn := none :: some .bag :: List.replicate n none
theorem bag_startT {T : List (Addr × Str)} {W : Wd} {H' : Hp} {b c : Addr} {cs : List Int} {m : Int} {σ : L2.St} {n : Nat} {v : Option V} (h1 : H' b = some (.lst [.ref c, .int 0, .int 0, .int m, .int 0])) (h2 : H' c = some (.lst (cs.map V.int))) (hm : 0 ≤ m ∧ m < 2147483549)
    (hT : ∀ a q, T.lookup a = some q → LamX.TabS H' a q) (hσ : σ = v :: some (.ref b) :: List.replicate n none) : Rho W ⟨some b, c, fun _ => False, fun _ => [], fun a => T.lookup a⟩ H' σ (bagR n) := by
  subst hσ
  refine ⟨⟨fun b' hb' => ?_, fun b' _ i => ⟨fun z => (by cases z), fun z => (by cases z)⟩, fun a ha => ha.elim, fun i a ha => (by cases ha), fun i => List.nodup_nil, fun i j a _ h => (by cases h), fun i a h => (by cases h), hT, fun a _ => ⟨fun i z => (by cases z), fun z => z⟩, fun c q _ => ⟨fun i z => (by cases z), fun z => z⟩⟩, ?_, fun i s h => ?_⟩
  · cases hb'
    exact ⟨cs, 0, 0, m, 0, h1, h2, Int.le_refl _, Int.le_refl _, hm.1, hm.2⟩
  · simp [bagR]
  · match i, h with
    | 0, h => cases h
    | 1, h =>
      have e : Sl.bag = s := Option.some.inj (Option.some.inj h)
      subst e
      exact ⟨.ref b, rfl, b, rfl, rfl⟩
    | i + 2, h =>
      have h' : (List.replicate n (none : Option Sl))[i]? = some (some s) := h
      rw [List.getElem?_replicate] at h'
      split at h' <;> cases h'
theorem bag_start {W : Wd} {H' : Hp} {b c : Addr} {cs : List Int} {m : Int} {σ : L2.St} {n : Nat} {v : Option V} (h1 : H' b = some (.lst [.ref c, .int 0, .int 0, .int m, .int 0])) (h2 : H' c = some (.lst (cs.map V.int))) (hm : 0 ≤ m ∧ m < 2147483549)
    (hσ : σ = v :: some (.ref b) :: List.replicate n none) : Rho W ⟨some b, c, fun _ => False, fun _ => [], fun a => List.lookup a []⟩ H' σ (bagR n) := bag_startT h1 h2 hm (fun a q ha => nomatch ha) hσ
/-- what the law's body is to give -/
def Yes : Out → Prop
  | .rt (.d (.bool true)) => True
  | _ => False
theorem law_end {W : Wd} {Z : WX} {B : Bs} {H' : Hp} {σ : L2.St} {ρ : Rn} {g : Rn → Fr Out} {Q : VK} (R : Rho W B H' σ ρ) (w : (g ρ).wp Yes) (k : ∀ H', Q (.bl true) H') : tDS W Z g { nx := fun _ H' => Q .non H', rt := Q } σ H' :=
  ⟨B, ρ, R, Fr.wp_mono (fun o q => by
    unfold Yes at q
    split at q
    · intro B' v H2 e r
      cases r
      exact k H2
    · exact q.elim) w⟩
end TM
namespace TM
open PySem PySem.Spec PyProof.Rows L2
section
variable {X : Cx} {pos : Pos}
theorem PlainL.isList {h : Heap} {a : Addr} {its : Array Value} (p : PlainL h a its) : h.IsList a its := by
  obtain ⟨o, n, e, hc, _, hd⟩ := p
  exact ⟨o, e, hc, n, hd⟩
end
end TM
namespace TM
open PySem PySem.Spec PyProof.Rows L2
/-- a field by its name -/
def getF (f : Str) : List (PyData × PyData) → Option PyData
  | (.str g, v) :: r => if f = g then some v else getF f r
  | _ => none
theorem DqF_get {W : Wd} {H : Hp} {f : Str} {d : PyData} : ∀ {fs : List (Str × V)} {ps : List (PyData × PyData)}, DqF W H fs ps → getF f ps = some d → ∃ v, fs.lookup f = some v ∧ Dq W H v d
  | _, _, .nil, e => by cases e
  | _, _, .cons (f := g) (v := v) (fs := fs) h t, e => by
    unfold getF at e
    by_cases z : f = g
    · subst z
      rw [if_pos rfl] at e
      cases e
      exact ⟨v, by simp [List.lookup], h⟩
    · rw [if_neg z] at e
      obtain ⟨u, h1, h2⟩ := DqF_get t e
      have z' : (f == g) = false := by
        rw [beq_eq_false_iff_ne]
        exact z
      exact ⟨u, by rw [List.lookup_cons, z']; exact h1, h2⟩
end TM
namespace TM
open PySem PySem.Spec PyProof.Rows L2
def insD (c : Str) (ps : List (PyData × PyData)) : PyData := .dict ((.none, .str c) :: ps)
def meI (a : Int) (c : Str) (ps : List (PyData × PyData)) : PyData := .dict ((.list [.int a], .str c) :: ps)
end TM
namespace TM
open PySem PySem.Spec PyProof.Rows L2
def kEqA : PyData → PyData → Bool
  | .int a, .int b => decide (a = b)
  | .str a, .str b => decide (a = b)
  | _, _ => false
def kEqL : List PyData → List PyData → Bool
  | [], [] => true
  | x :: xs, y :: ys => kEqA x y && kEqL xs ys
  | _, _ => false
def kEq : PyData → PyData → Bool
  | .tuple xs, .tuple ys => kEqL xs ys
  | x, y => kEqA x y
def keyO : PyData → Option Key
  | .int i => some (.inl i)
  | .str s => some (.inr s)
  | _ => none
def keysO : List PyData → Option (List Key)
  | [] => some []
  | x :: xs => match keyO x, keysO xs with
    | some k, some ks => some (k :: ks)
    | _, _ => none
def getKD (k : PyData) : List (PyData × PyData) → Option PyData
  | [] => none
  | p :: r => if kEq p.1 k = true then some p.2 else getKD k r
/-- a dict with keys that are ints or texts; with tuple keys -/
def dictP : PyData → Option (List (PyData × PyData))
  | .dict ((.int i, v) :: ps) => some ((.int i, v) :: ps)
  | .dict ((.str i, v) :: ps) => some ((.str i, v) :: ps)
  | .dict ((.tuple i, v) :: ps) => some ((.tuple i, v) :: ps)
  | _ => none
def isKey : PyData → Bool
  | .tuple ks => (keysO ks).isSome
  | d => (keyO d).isSome
def sGetD (x y : Sl) : Fr Sl := (ofO (toP x)).bind fun d => (ofO (dictP d)).bind fun ps => (ofO (toP y)).bind fun k => if isKey k = true then (ofO (getKD k ps)).bind fun v => .ret (.d v) else .bad
end TM
namespace TM
open PySem PySem.Spec PyProof.Rows L2
/-- from H1 on all stays but D -/
structure Gw (B : Bs) (H1 : Hp) (D : Addr) (H' : Hp) : Prop where
  sm : ∀ a o, ¬ B.mv a → H1 a = some o → H' a = some o
  bg : Mvo B H'
section
variable {W : Wd} {B B3 : Bs} {H1 H' H2 H3 H4 : Hp} {D : Addr} {o : HO} {σ : L2.St} {ρ : Rn}
theorem Gw.okB (g : Gw B H1 D H') (ok : Bok B H1) : Bok B H' := ok.ext0 g.sm g.bg
theorem Gw.okF (g : Gw B H1 D H') (ok : Bok B H1) (hD : H1 D = none) (hd : H' D ≠ none) (hc : NoCode H' D) : Bok (hideF B [D]) H' :=
  hideF_ok (g.okB ok) (fun a ha => by rw [List.mem_singleton.mp ha]; exact hd) (fun a ha => by rw [List.mem_singleton.mp ha]; exact ok.free hD) fun a ha => by rw [List.mem_singleton.mp ha]; exact hc
theorem Gw.g (g : Gw B H1 D H') (ok : Bok B H1) (hD : H1 D = none) (hd : H' D ≠ none) (hc : NoCode H' D) : ExG B H1 (hideF B [D]) H' :=
  ⟨rfl, fun a ha => ((hideF_off a).mp ha).imp id fun z => by rw [List.mem_singleton.mp z]; exact hD, fun a o h1 h => g.sm a o (off_bag h1) h, g.okF ok hD hd hc⟩
theorem Gw.next (g : Gw B H1 D H') (sm : ∀ a o, ¬ B.mv a → H' a = some o → H3 a = some o) (bg : Mvo B H3) : Gw B H1 D H3 := ⟨fun a o h1 h => sm a o h1 (g.sm a o h1 h), bg⟩
theorem Gw.start (ok : Bok B H1) (hD : H1 D = none) : Gw B H1 D (upd H1 D o) := ⟨fun a u _ h => by rw [upd_ne (ne_of_none h hD)]; exact h, (ok.upd hD).mvo⟩
end
end TM
namespace TM
open PySem PySem.Spec PyProof.Rows L2
def intsD : List PyData → Option (List Int)
  | [] => some []
  | .int i :: r => (intsD r).map (i :: ·)
  | _ :: _ => none
def sSum (x : Sl) : Fr Sl := (seqD x).bind fun ds => (ofO (intsD ds)).bind fun ns => .ret (.d (.int ns.sum))
/-- items that can be sorted: alike, all tuples that are not empty or none a tuple, not deep -/
def sortOk (ds : List PyData) : Bool := (ds.all fun d => ds.all fun e => PySem.W.alike d e) && (pln.plnL ds) && (ds.all fun d => decide (d.depth ≤ 60)) && ((ds.all fun d => match d with | .tuple (_ :: _) => true | _ => false) || ds.all fun d => match d with | .none => false | .tuple _ => false | _ => true)
def sortD (ds : List PyData) : List PyData := ds.mergeSort (PySem.W.dataLe false id)
def sSorted (x : Sl) : Fr Sl := (ofO (asL x)).bind fun ds => if sortOk ds = true then .ret (.d (.list (sortD ds))) else .bad
end TM
namespace TM
open PySem PySem.Spec PyProof.Rows L2
def g_is_number : Rn → Fr Out := (gRet (fAndV (f1 (sIsi .int) (fVar 0)) (fAndV (fNotV (f1 (sIsi .bool) (fVar 0))) (fChain sLe sLe (fVar 1) (fVar 0) (fVar 2)))))
def S_is_number : List Sl → Fr Sl := fnSem 3 g_is_number
def g_is_letters : Rn → Fr Out := (gRet (fAndV (f1 (sIsi .str) (fVar 0)) (fAndV (fChain sLe sLe (fC (.int 1)) (f1 sLen (fVar 0)) (fVar 1)) (f1 sAll (fLc (fW (fVar 0)) (.nm 2) [2] fYes (f2 sIn (fVar 2) (fC (.str "abcdefghijklmnopqrstuvwxyz"))))))))
def S_is_letters : List Sl → Fr Sl := fnSem 3 g_is_letters
def g_is_name : Rn → Fr Out := (gRet (fCall 2 S_is_letters (fCons (fVar 0) (fCons (fC (.int 6)) fNil))))
def S_is_name : List Sl → Fr Sl := fnSem 1 g_is_name
def g_is_word : Rn → Fr Out := (gRet (fCall 2 S_is_letters (fCons (fVar 0) (fCons (fC (.int 4)) fNil))))
def S_is_word : List Sl → Fr Sl := fnSem 1 g_is_word
def g_is_deed : Rn → Fr Out := (gSeq (gIf (fB (f2 sIsN (fVar 0) (fC .none))) (gRet (fC (.bool true))) gPass) (gSeq (gIf (fOr (fNot (fT (f1 (sIsi .tuple) (fVar 0)))) (fOr (fB (f2 sNe (f1 sLen (fVar 0)) (fC (.int 2)))) (fNot (fT (f1 (sIsi .str) (f2 sIx (fVar 0) (fC (.int 0)))))))) (gRet (fC (.bool false))) gPass) (gRet (fAndV (f1 (sInK ["send", "receive"]) (f2 sIx (fVar 0) (fC (.int 0)))) (fCall 1 S_is_word (fCons (f2 sIx (fVar 0) (fC (.int 1))) fNil))))))
def S_is_deed : List Sl → Fr Sl := fnSem 1 g_is_deed
def g_is_step : Rn → Fr Out := (gSeq (gIf (fOr (fNot (fT (f1 (sIsi .tuple) (fVar 0)))) (fB (f2 sNe (f1 sLen (fVar 0)) (fC (.int 3))))) (gRet (fC (.bool false))) gPass) (gSeq (gAsg (.tup 3 (.cons (.nm 1) (.cons (.nm 2) (.cons (.nm 3) .nil)))) (fVar 0)) (gRet (fAndV (fCall 1 S_is_word (fCons (fVar 1) fNil)) (fAndV (fCall 3 S_is_number (fCons (fVar 2) (fCons (f1 sNeg (fC (.int 99))) (fCons (fC (.int 99)) fNil)))) (fCall 1 S_is_deed (fCons (fVar 3) fNil)))))))
def S_is_step : List Sl → Fr Sl := fnSem 4 g_is_step
def g__law_same (R : List Sl → Fr Sl) : Rn → Fr Out := (gSeq (gIf (fOr (fB (f2 sIsN (fVar 1) (fC .none))) (fB (f2 sIsN (fVar 0) (fC .none)))) (gRet (fAndV (f2 sIsN (fVar 1) (fC .none)) (f2 sIsN (fVar 0) (fC .none)))) gPass) (gSeq (gIf (fT (f1 (sIsi2 .list .tuple) (fVar 1))) (gSeq (gIf (fOr (fB (f2 sNe (f1 (sIsi .list) (fVar 0)) (f1 (sIsi .list) (fVar 1)))) (fB (f2 sNe (f1 (sIsi .tuple) (fVar 0)) (f1 (sIsi .tuple) (fVar 1))))) (gRet (fC (.bool false))) gPass) (gRet (fAndV (f2 sEq (f1 sLen (fVar 0)) (f1 sLen (fVar 1))) (f1 sAll (fLc (fun ρ => Fr.bind ((fVar 0) ρ) fun x => Fr.bind ((fVar 1) ρ) fun y => sZip x y) (.tup 2 (.cons (.nm 2) (.cons (.nm 3) .nil))) [2, 3] fYes (fCall 2 R (fCons (fVar 2) (fCons (fVar 3) fNil)))))))) gPass) (gSeq (gIf (fOr (fB (f2 sNe (f1 (sIsi .bool) (fVar 0)) (f1 (sIsi .bool) (fVar 1)))) (fB (f2 sNe (f1 (sIsi .int) (fVar 0)) (f1 (sIsi .int) (fVar 1))))) (gRet (fC (.bool false))) gPass) (gRet (fAndV (f2 sEq (f1 (sIsi .str) (fVar 0)) (f1 (sIsi .str) (fVar 1))) (f2 sEq (fVar 0) (fVar 1)))))))
def S__law_same : Nat → List Sl → Fr Sl
  | 0 => fun _ => .bad
  | n + 1 => fnSem 4 (g__law_same (S__law_same n))
end TM
namespace TM
open PySem PySem.Spec PyProof.Rows L2
/-- the j-th statement of a class -/
def clsStmt (s : Stmt) (j : Nat) : Stmt := match s with
  | .ClassDef _ _ _ b _ _ _ _ _ _ _ => b.getD j (.Pass ⟨0, 0, 0, 0⟩)
  | _ => s
end TM
namespace TMX
open PySem PySem.HandSPX
section
variable {M : Model} {A : Around} {E : Value → Shared → Prop} {h : Heap} {g : Array GenState} {d : Drawn} {t : Nat} {os : OsState}
variable {C : Addr} {bmB : List Value} {B newId initId : String} {kw : List (Str × Value)}
/-- the class at C is an own error over the built-in B -/
def OwnCl (h : Heap) (C : Addr) (bmB : List Value) (newId : String) : Prop := ∃ nm q N bs bm hdct sn sub ab col dd k0 k1 k2 k3 k5, h.get? C = some (excClassObj nm q C N bs bm hdct sn sub ab col dd k0 k1 k2 k3 k5 newId) ∧ ∀ X : String, bm.contains (.type X) = bmB.contains (.type X)
theorem tail_in {bm bmB : List Value} {C : Addr} {T : String} {b : Bool} (hT : ∀ X : String, bm.contains (.type X) = bmB.contains (.type X)) (e : bmB.contains (.type T) = b) : (Value.ref C :: bm).contains (.type T) = b := by
  rw [List.contains_cons, hT, e]; cases b <;> rfl
theorem check_newK (F : ExcBaseFacts B newId initId bmB) {rest : List Value} {Q : Unit → Shared → Prop} (hO : OwnCl h C bmB newId) (hq : Q () ⟨h, g, d, t, os⟩) : wpAny M A (checkBuiltinCall newId ⟨.ref C :: rest, kw⟩) Q E ⟨h, g, d, t, os⟩ := by
  obtain ⟨_, _, _, _, _, _, _, _, _, _, _, _, _, _, _, _, o, hT⟩ := hO
  have c1 := tail_in (C := C) hT F.hasB; have c2 := F.noStar
  simp only [checkBuiltinCall, F.newKind, F.newSplit, F.newRow]
  repeat (first | refine wpAny_loadPart_at o ?_ | (refine wpAny_isSubtype_exc o ?_; rw [c1]) | refine wpAny_staticBase_exc o ?_ | refine wpAny_madeBy_exc o ?_ | simp only [bne_self_eq_false, Bool.false_eq_true, if_false] | wp_step)
  exact hq
end
section
variable {prog : Program} {w : World} {A : Around} {E : Value → Shared → Prop} {R : Result → Shared → Prop} {h : Heap} {g : Array GenState} {d : Drawn} {t : Nat} {os : OsState}
variable {C : Addr} {bmB : List Value} {B newId initId : String} {kw : List (Str × Value)} {rest : List Value}
/-- the heap with the new error -/
abbrev withErr (h : Heap) (C : Addr) (rest : List Value) : Heap := (h.push (W.kdv_tup rest)).push (excO C h.objs.size)
theorem newK (F : ExcBaseFacts B newId initId bmB) (hO : OwnCl h C bmB newId) (hq : R (.ok (.ret (.ref (h.objs.size + 1)))) ⟨withErr h C rest, g, d, t, os⟩) (hl : rest.length ≤ sizeLine) :
    codeAny (model prog w) A (.builtin newId ⟨.ref C :: rest, kw⟩) R ⟨h, g, d, t, os⟩ := by
  obtain ⟨_, _, _, _, _, _, _, _, _, _, _, _, _, _, _, _, o, hT⟩ := hO
  have c1 := tail_in (C := C) hT F.hasB; have c2 := tail_in (C := C) hT F.noAttr; have c3 := tail_in (C := C) hT F.noName; have c4 := F.ends
  refine codeAny_builtinAt F.entry ?_
  unfold Builtin.«BaseException.__new__»
  refine wpAt_bind (show wpAt _ _ _ (stack >>= _) _ _ _ from wpAt_bind (wpAt_stack fun p below => wpAt_of_wpAny ?_))
  wp_walk
  refine wpAt_of_wpAny ?_
  rw [F.owner]
  repeat (first | with_reducible refine wpAny_madeHere_exc F.canon o ?_ | with_reducible refine wpAny_loadPart_at o ?_ | (with_reducible refine wpAny_isSubtype_exc o ?_; first | rw [c1] | rw [c2] | rw [c3]) | wp_step)
  show R _ _
  rw [Heap.size_push]; exact hq
theorem type_callK (F : ExcBaseFacts B newId initId bmB) {fI : Addr} {Q : Fin → Shared → Prop} (hO : OwnCl h C bmB newId) (hi : W.Looks (model prog w) h (typeLookup (.ref C) "__init__") (some (.ref fI))) (hb : ∀ self, W.Looks (model prog w) h (bindSpecial (.ref fI) self) (.ref fI, [self])) (hl : rest.length ≤ sizeLine)
    (hq : codeAny (model prog w) A (.call (.ref fI) ⟨.ref (h.objs.size + 1) :: rest, kw⟩) (fun r s' => match r with | .ok (.ret v) => v = .none ∧ Q (.done (.ret (.ref (h.objs.size + 1)))) s' | .ok _ => False | .error e => E e s') ⟨withErr h C rest, g, d, t, os⟩) :
    wpAny (model prog w) A (Builtin.«type.__call__» ⟨.ref C :: rest, kw⟩) Q E ⟨h, g, d, t, os⟩ := by
  obtain ⟨_, _, _, _, bm, _, _, _, _, _, _, _, _, _, _, _, o, hT⟩ := id hO
  repeat (first | with_reducible refine wpAny_loadPart_at o ?_ | with_reducible refine wpAny_madeBy_exc o ?_ | wp_step)
  refine codeAny_call_builtin_code (Code.quiet_builtin _ F.quiet) (check_newK F hO (newK F hO (show wpAny _ _ _ _ _ _ from ?_) hl))
  have kp : ∀ b o, h.get? b = some o → (withErr h C rest).get? b = some o := fun b o e => Heap.get?_push_of_some _ (Heap.get?_push_of_some _ e)
  have o1 := kp _ _ o; have l1 := hi.keeps kp; have l2 := (hb (.ref (h.objs.size + 1))).keeps kp
  have ne : (withErr h C rest).get? (h.objs.size + 1) = some (excO C h.objs.size) := by heap_get
  have cc : (Value.ref C :: bm).contains (.ref C) = true := by simp
  unfold isInstance
  repeat (first | with_reducible refine wpAny_loadPart_at ne ?_ | (with_reducible refine wpAny_isSubtype_exc o1 ?_; rw [cc]) | wp_step)
  refine show wpAny _ _ (typeLookup (.ref C) _) _ _ _ from l1.at (wpAny_holding (wpAny_bind (l2.at (wpAny_bind (wpAny_call (codeAny_mono hq fun r s' z => ?_))))))
  rcases r with e | (v | _ | _ | _) <;> first | exact z | exact z.elim | skip
  obtain ⟨rfl, z⟩ := z
  first | exact wpAny_pure (wpAny_pure z) | (wp_walk; exact z)
theorem call_ownK (F : ExcBaseFacts B newId initId bmB) {fI : Addr} (hO : OwnCl h C bmB newId) (hi : W.Looks (model prog w) h (typeLookup (.ref C) "__init__") (some (.ref fI))) (hb : ∀ self, W.Looks (model prog w) h (bindSpecial (.ref fI) self) (.ref fI, [self])) (hl : rest.length ≤ sizeLine)
    (hq : codeAny (model prog w) (A.under (.builtin "type.__call__" ⟨.ref C :: rest, kw⟩)) (.call (.ref fI) ⟨.ref (h.objs.size + 1) :: rest, kw⟩) (W.InitBack (h.objs.size + 1) R) ⟨withErr h C rest, g, d, t, os⟩) :
    codeAny (model prog w) A (.call (.ref C) ⟨rest, kw⟩) R ⟨h, g, d, t, os⟩ := by
  obtain ⟨_, _, _, _, _, _, _, _, _, _, _, _, _, _, _, _, o, hT⟩ := id hO
  have w1 := tc_lookup; have w2 := tc_bind (.ref C); have w3 : (⟨h, g, d, t, os⟩ : Shared).TypeIs (.ref C) "type" := ⟨_, o, rfl⟩
  refine codeAny_of_tree (show wpAny _ _ (callAny (.ref C) _) _ _ _ from ?_)
  repeat (any_goals (first | assumption | with_reducible refine wpAny_loadPart_at o ?_ | wp_step))
  refine ⟨rfl, codeAny_call_builtin_at (Code.quiet_builtin _ (by decide +kernel)) entry_typeCall (wpAny_check_type_call_sub o (type_callK F hO hi hb hl (codeAny_mono hq fun r s' z => ?_)))⟩
  rcases r with e | (v | _ | _ | _) <;> exact z
end
section
open Builtin Builtin.ObjectAttr
variable {prog : Program} {w : World} {A : Around} {R : Result → Shared → Prop} {hp : Heap} {g : Array GenState} {d : Drawn} {t : Nat} {os : OsState} {K : W.Frag} {name : Str} {tk : Tok} {v : Value} {x C dx : Addr} {fv : Array Value} {cd : ClassData}
theorem osaX {ox : Obj} {od : Option Obj} (X : K.In hp) (I : W.InstAt hp x ox C od) (hcd : W.clsIn K C = some cd) (hob : W.mroIn K C (.type "object") = some true) (hps : refuseLoop (.ref x) "__setattr__" cd.mro = pure ()) (ha : W.findIn K (.ref C) name = some none)
    (hq : wpAny (model prog w) A.in1 (storeInOwnDict (.ref x) (.ref C) (.str name tk) name v false) (fun fin s' => match fin with | .done f => R (.ok f) s' | .again c' => c'.quiet = true ∧ codeAny (model prog w) A c' R s') (fun e s' => R (.error e) s') ⟨hp, g, d, t, os⟩) :
    codeAny (model prog w) A (.call (.builtin "object.__setattr__") ⟨[.ref x, .str name tk, v], []⟩) R ⟨hp, g, d, t, os⟩ := by
  have i1 : W.Looks (model prog w) hp (isInstance (.ref x) (.type "object")) true := I.type.andThen (W.looks_mroIn X hob)
  have i2 : W.Looks (model prog w) hp (mroOf (.ref C)) cd.mro := (W.looks_clsIn X hcd).andThen .now
  have i3 : W.Looks (model prog w) hp (storeTaker? none) none := .now
  refine codeAny_call_builtin F.store_object.slot.plain F.store_object.entry (@W.check_slot (model prog w) _ _ ⟨hp, g, d, t, os⟩ "object.__setattr__" "object" "__setattr__" (.ref x) [.str name tk, v] [] _ F.store_object.kind F.store_object.split i1 (F.store_object.args (.ref x) (.str name tk) v) ?_)
  rw [W.osa_eq, refuse_eq]
  refine wpAny_bind (wpAny_bind (I.type.at (wpAny_bind (i2.at (by rw [hps]; exact wpAny_pure (wpAny_bind (I.type.at (wpAny_bind ((W.looks_findIn X ha).at (wpAny_bind (i3.at hq)))))))))))
theorem osaX_new (X : K.In hp) (hx : hp.get? x = some { cls := .ref C, data := .fields fv }) (hcd : W.clsIn K C = some cd) (hob : W.mroIn K C (.type "object") = some true) (hps : refuseLoop (.ref x) "__setattr__" cd.mro = pure ()) (hh : cd.hasDict = true) (ha : W.findIn K (.ref C) name = some none)
    (hq : ∀ h' tk' dx, (∀ b o, b ≠ x → hp.get? b = some o → h'.get? b = some o) → hp.objs.size ≤ dx → dx ≠ x → h'.get? x = some { cls := .ref C, dict := some dx, data := .fields fv } → h'.Ns1 dx (fun y => if y = name then some v else none) → R (.ok (.ret .none)) ⟨h', g, d, tk', os⟩) :
    codeAny (model prog w) A (.call (.builtin "object.__setattr__") ⟨[.ref x, .str name tk, v], []⟩) R ⟨hp, g, d, t, os⟩ := by
  have xs : x ≠ hp.objs.size := Nat.ne_of_lt (Heap.lt_size hx)
  refine osaX X (⟨hx, rfl, rfl, trivial⟩ : W.InstAt hp x { cls := .ref C, data := .fields fv } C none) hcd hob hps ha ?_
  have hk : W.Looks (model prog w) hp (classData C) cd := W.looks_clsIn X hcd
  obtain ⟨_, _, _, _, _, hd, _, _, _, _, _⟩ := cd
  have e : hd = true := hh
  subst e
  unfold storeInOwnDict ownDictForStores
  repeat (first | with_reducible refine HandSPX.store_in_new ?_ ?_ | with_reducible refine wpAny_loadPart_at hx ?_ | with_reducible refine hk.at ?_ | wp_step)
  · exact ⟨_, #[], _, (Heap.get?_update_ne _ _ _ _ xs.symm).trans (Heap.get?_push_at rfl rfl), rfl, fun e he => absurd he (by simp), fun _ => rfl⟩
  · intro h' tk' hn' hs
    have h1 : (hp.push { cls := .type "dict", data := .dict #[] }).get? x = some { cls := .ref C, data := .fields fv } := Heap.get?_push_of_some _ hx
    exact hq h' tk' hp.objs.size (fun b o hb ho => (hs.2 b (Nat.ne_of_lt (Heap.lt_size ho))).trans ((Heap.get?_update_ne _ _ _ _ hb).trans (Heap.get?_push_of_some _ ho))) (Nat.le_refl _) xs.symm ((hs.2 x xs).trans (Heap.get?_update_self _ h1 rfl)) hn'
theorem osaX_old {m0 : Str → Option Value} {nl : List Str} (X : K.In hp) (hx : hp.get? x = some { cls := .ref C, dict := some dx, data := .fields fv }) (hns : hp.Ns1 dx m0) (hw : Within m0 nl) (hz : nl.length ≤ 1000) (hcd : W.clsIn K C = some cd) (hob : W.mroIn K C (.type "object") = some true) (hps : refuseLoop (.ref x) "__setattr__" cd.mro = pure ()) (hh : cd.hasDict = true) (ha : W.findIn K (.ref C) name = some none)
    (hq : ∀ h' tk', (∀ b o, b ≠ dx → hp.get? b = some o → h'.get? b = some o) → h'.Ns1 dx (fun y => if y = name then some v else m0 y) → R (.ok (.ret .none)) ⟨h', g, d, tk', os⟩) :
    codeAny (model prog w) A (.call (.builtin "object.__setattr__") ⟨[.ref x, .str name tk, v], []⟩) R ⟨hp, g, d, t, os⟩ := by
  obtain ⟨oD, _, _, hoD, _, _⟩ := hns.count hw
  refine osaX X (⟨hx, rfl, rfl, hoD⟩ : W.InstAt hp x { cls := .ref C, dict := some dx, data := .fields fv } C (some oD)) hcd hob hps ha ?_
  have hk : W.Looks (model prog w) hp (classData C) cd := W.looks_clsIn X hcd
  obtain ⟨_, _, _, _, _, hd, _, _, _, _, _⟩ := cd
  have e : hd = true := hh
  subst e
  unfold storeInOwnDict ownDictForStores
  repeat (first | with_reducible refine OEX.store_in_old hns hw hz ?_ | with_reducible refine wpAny_loadPart_at hx ?_ | with_reducible refine hk.at ?_ | wp_step)
  exact fun h' tk' hn' hs => hq h' tk' (fun b o hb ho => (hs.2 b hb).trans ho) hn'
end
end TMX
namespace TM
open PySem PySem.Spec PyProof.Rows L2
theorem upd_upd {H : Hp} {a : Addr} {o u : HO} : upd (upd H a o) a u = upd H a u := by
  funext b
  by_cases h : b = a
  · subst h
    rw [upd_same, upd_same]
  · rw [upd_ne h, upd_ne h, upd_ne h]
/-- what the written part says of an own error's class, B its built-in base -/
structure OxB (K : PySem.W.Frag) (C : Addr) (B newId initId : String) (bmB : List Value) : Prop where
  fb : ExcBaseFacts B newId initId bmB
  kx : PySem.W.KxsFacts B initId
  cls : ∃ nm q N bs bm sn sub ab col dd k0 k1 k2 k3 k5, K.lookup C = some (excClassObj nm q C N bs bm true sn sub ab col dd k0 k1 k2 k3 k5 newId) ∧ (∀ X : String, bm.contains (.type X) = bmB.contains (.type X)) ∧ ∀ x : Addr, PySem.refuseLoop (.ref x) "__setattr__" (.ref C :: bm) = pure ()
  ob : PySem.W.mroIn K C (.type "object") = some true
  sa : PySem.W.findIn K (.ref C) "__setattr__" = some (some (.builtin "object.__setattr__"))
  exC : PySem.W.subIn K (.ref C) (.type "BaseException") = some true
  tyC : PySem.W.typeIn K (.ref C) = some (.type "type")
  kC : PySem.W.keepIn K (.ref C) = true
section
variable {X : Cx} {pins : List (Addr × Obj)} {σ : L2.St} {H : Hp} {s : Shared} {a C dx : Addr} {f : Str} {y : V} {u : Value} {fs : List (Str × V)} {Q : Unit → Shared → Prop} {E : Value → Shared → Prop} {A : Around} {B newId initId : String} {bmB : List Value}
theorem OxB.cd (T : OxB X.K C B newId initId bmB) : ∃ cd, PySem.W.clsIn X.K C = some cd ∧ cd.hasDict = true ∧ ∀ x : Addr, PySem.refuseLoop (.ref x) "__setattr__" cd.mro = pure () := by
  obtain ⟨nm, q, N, bs, bm, sn, sub, ab, col, dd, k0, k1, k2, k3, k5, hC, hT, hp⟩ := T.cls
  exact ⟨_, by unfold PySem.W.clsIn; rw [hC], rfl, hp⟩
theorem exo_upd (he : H a = some (exo a C none)) (hn : H dx = none) (v : List (Str × V)) (b : Addr) (o : HO) (h1 : o ≠ exo a C none) (h : H b = some o) : upd (upd H dx (exd dx v)) a (exo a C (some dx)) b = some o := by
  rw [upd_ne (fun z => h1 (by rw [z, he] at h; exact (Option.some.inj h).symm)), upd_ne (ne_of_none h hn)]
  exact h
/-- the first field -/
theorem ost_newB (T : OxB X.K C B newId initId bmB) (I : Inv X pins σ H s) (e : H a = some (exo a C none)) (hno : PySem.W.findIn X.K (.ref C) f = some none) (ry : RelV y u)
    (h : ∀ dx s', H dx = none → dx ≠ a → Inv X pins σ (upd (upd H dx (exd dx [(f, y)])) a (exo a C (some dx))) s' → Q () s') : wpAny (model X.prog X.w) A (setAttr (.ref a) f u) Q E s := by
  obtain ⟨cd, hcd, hdi, hps⟩ := T.cd
  obtain ⟨t1, ho⟩ := exo_at I.hok e
  obtain ⟨hp, g, d, t, os⟩ := s
  refine PySem.W.set_plain I.kIn (ox := { cls := .ref C, dict := none, data := .fields #[.ref t1, .none, .none, .none, .bool false, .none] }) (od := none) ⟨ho, rfl, rfl, trivial⟩ T.sa (TMX.osaX_new I.kIn ho hcd T.ob (hps a) hdi hno fun h' tk' dx k dn dne hx hn => ?_)
  have hnd : H dx = none := I.hok.fresh dn
  have bd : ∀ {b : Addr} {o : Obj}, hp.get? b = some o → b ≠ dx := fun {b o} q => Nat.ne_of_lt (Nat.lt_of_lt_of_le (Heap.lt_size q) dn)
  have ba : ∀ {b : Addr}, H b = none → b ≠ a := fun {b} n z => by rw [z, e] at n; cases n
  have kk := exo_upd (C := C) e hnd [(f, y)]
  have Un1 : Un X.fs [] H (upd (upd H dx (exd dx [(f, y)])) a (exo a C (some dx))) hp h' :=
    ⟨fun b o q n _ _ => k b o (ba n) q, fun b o q n _ _ => ⟨o.slots, k b o (ba n) q⟩, fun b o q n _ => by rw [upd_ne (ba n), upd_ne (bd q)]; exact n,
      fun b o q _ => if z : b = a then ⟨_, (congrArg h'.get? z).trans hx⟩ else ⟨o, k b o z q⟩, fun b xs q => kk b _ (Ne.symm exo_tup) q, fun b o v q => kk b _ (Ne.symm exo_frz) q, fun b ps q => ⟨#[], by rw [kk b _ (Ne.symm exo_tbl) q]; simp⟩⟩
  refine h dx _ hnd dne (I.un (t' := tk') Un1 fun b o q => ?_)
  by_cases z1 : b = a
  · subst z1; rw [upd_same] at q; cases q; exact exo_ok hx
  rw [upd_ne z1] at q
  by_cases z2 : b = dx
  · subst z2; rw [upd_same] at q; cases q; exact exd_ok hn (relO_put (fs := []) ry fun g => True.intro)
  rw [upd_ne z2] at q
  refine (I.hok b o q).stay (fun c v hc z => k c v ?_ z) (fun c hc => kk c _ (Ne.symm exo_own) hc) fun c xs hc => kk c _ (Ne.symm exo_tup) hc
  rcases hc with hc | hc
  · rw [hc]; exact z1
  · exact at_ne e hc exo_own
/-- a further field -/
theorem ost_oldB (T : OxB X.K C B newId initId bmB) (I : Inv X pins σ H s) (e : H a = some (exo a C (some dx))) (ed : H dx = some (exd dx fs)) (hl : fs.length ≤ 900) (hno : PySem.W.findIn X.K (.ref C) f = some none) (ry : RelV y u)
    (h : ∀ s', Inv X pins σ (upd H dx (exd dx ((f, y) :: fs))) s' → Q () s') : wpAny (model X.prog X.w) A (setAttr (.ref a) f u) Q E s := by
  obtain ⟨cd, hcd, hdi, hps⟩ := T.cd
  obtain ⟨t1, ho⟩ := exo_at I.hok e
  obtain ⟨mA, hns, rel⟩ := exd_at I.hok ed
  obtain ⟨hp, g, d, t, os⟩ := s
  obtain ⟨oD, _, _, hoD, _, _⟩ := hns.count (within_of rel)
  refine PySem.W.set_plain I.kIn (ox := { cls := .ref C, dict := some dx, data := .fields #[.ref t1, .none, .none, .none, .bool false, .none] }) (od := some oD) ⟨ho, rfl, rfl, hoD⟩ T.sa (TMX.osaX_old I.kIn ho hns (within_of rel) (by rw [List.length_map]; omega) hcd T.ob (hps a) hdi hno fun h' tk' k hn => ?_)
  have hd : ∃ o, h'.get? dx = some o := let ⟨o, _, _, e', _⟩ := hn; ⟨o, e'⟩
  exact h _ (I.write (t' := tk') (x := dx) (e := dx) (o := exd dx ((f, y) :: fs)) (by rw [ed]; exact True.intro) (.inl rfl) k hd (exd_ok hn (relO_put ry rel)))
end
theorem assign_attr {M : Model} {A : Around} {E : Value → Shared → Prop} {s : Shared} {env : Env} {o : Expr} {f : Str} {pos : Pos} {v : Value} {Q : Unit → Shared → Prop}
    (h : wpAny M A (eval o env) (fun ov s₂ => wpAny M A (setAttr ov f v) (fun _ => Q ()) E s₂) E s) : wpAny M A (assign (.Attribute o f pos) env v) Q E s := by
  rw [assign_Attribute]
  exact wpAny_bind (wpAny_holding (wpAny_mono h (fun ov s₂ h₂ => wpAny_bind (wpAny_standAt (wpAny_bind (wpAny_holding (wpAny_mono h₂ (fun _ _ z => wpAny_release' z) fun _ _ z => z))))) fun _ _ z => z))
inductive SelfAt (self : Str) : List Expr → List Str → Prop
  | nil : SelfAt self [] []
  | cons {p p' : Pos} {f : Str} {es : List Expr} {fs : List Str} : SelfAt self es fs → SelfAt self (.Attribute (.Name self p) f p' :: es) (f :: fs)
def putAll : List Str → List V → List (Str × V) → List (Str × V)
  | f :: fs, v :: vs, ds => putAll fs vs ((f, v) :: ds)
  | _, _, ds => ds
section
variable {X : Cx} {pins : List (Addr × Obj)} {σ : L2.St} {s : Shared} {C : Addr} {self : Str} {i : Nat} {B newId initId : String} {bmB : List Value}
theorem attrs_old (T : OxB X.K C B newId initId bmB) (hN : X.N[i]? = some self) (hv : Vis X.env.scope self) (hd : (self == ("__debug__" : Str)) = false) (hcd : (self == ("__classdict__" : Str)) = false) :
    ∀ {es : List Expr} {fs : List Str} {us : List Value} {vs : List V} {H : Hp} {ds : List (Str × V)} {s : Shared} {a dx : Addr} {Q : Unit → Shared → Prop}, SelfAt self es fs → (∀ f ∈ fs, PySem.W.findIn X.K (.ref C) f = some none) → Vals vs us → vs.length = fs.length → Inv X pins σ H s → σ[i]? = some (some (.ref a)) →
      H a = some (exo a C (some dx)) → H dx = some (exd dx ds) → dx ≠ a → ds.length + fs.length ≤ 900 → (∀ s', Inv X pins σ (upd H dx (exd dx (putAll fs vs ds))) s' → Q () s') →
      wpAny (model X.prog X.w) X.A (assignInOrder ((assignEach es X.env).map (·.2)) us) Q X.xe s
  | _, _, us, vs, H, ds, s, a, dx, Q, .nil, _, r, hl, I, hs, ea, ed, ne, hz, q => by
    cases vs with
    | cons _ _ => cases hl
    | nil =>
      cases r
      refine wpAny_pure (q s ?_)
      have e : upd H dx (exd dx (putAll [] [] ds)) = H := by
        funext b
        by_cases h : b = dx
        · rw [h, upd_same, ed]
          rfl
        · rw [upd_ne h]
      rw [e]
      exact I
  | _, _, us, vs, H, ds, s, a, dx, Q, .cons (p := p) (p' := p') (f := f) (es := es) (fs := fs) t, hf, r, hl, I, hs, ea, ed, ne, hz, q => by
    cases vs with
    | nil => cases hl
    | cons v vs =>
      cases r with
      | @cons _ u _ us rv rs =>
        show wpAny _ _ (do holding us (assign (.Attribute (.Name self p) f p') X.env u); assignInOrder ((assignEach es X.env).map (·.2)) us) _ _ _
        refine wpAny_bind (wpAny_holding (assign_attr (thn ((pe_var (pos := p) hN hv hd hcd).run pins s σ H (fun x H1 => x = .ref a ∧ H1 = H) I ⟨.ref a, hs, rfl, rfl⟩) fun ov s1 ⟨x, H1, I1, rx, ex, eH⟩ => ?_)))
        subst ex
        subst eH
        obtain rfl : ov = Value.ref a := rx
        refine ost_oldB T I1 ea ed (by rw [List.length_cons] at hz; omega) (hf f List.mem_cons_self) rv fun s' J => ?_
        refine attrs_old T hN hv hd hcd t (fun g hg => hf g (List.mem_cons_of_mem _ hg)) rs (Nat.succ.inj hl) J hs (by rw [upd_ne (Ne.symm ne)]; exact ea) upd_same ne (by rw [List.length_cons] at hz ⊢; omega) fun s2 J2 => q s2 ?_
        rw [upd_upd] at J2
        exact J2
theorem attrs_new (T : OxB X.K C B newId initId bmB) (hN : X.N[i]? = some self) (hv : Vis X.env.scope self) (hd : (self == ("__debug__" : Str)) = false) (hcd : (self == ("__classdict__" : Str)) = false)
    {es : List Expr} {f : Str} {fs : List Str} {us : List Value} {v : V} {vs : List V} {H : Hp} {s : Shared} {a : Addr} {p p' : Pos} {Q : Unit → Shared → Prop} (t : SelfAt self es fs) (hf : ∀ g ∈ f :: fs, PySem.W.findIn X.K (.ref C) g = some none) (r : Vals (v :: vs) us) (hl : vs.length = fs.length) (I : Inv X pins σ H s) (hs : σ[i]? = some (some (.ref a)))
    (ea : H a = some (exo a C none)) (hz : fs.length ≤ 800) (q : ∀ s' dx H', Inv X pins σ H' s' → H dx = none → dx ≠ a → H' a = some (exo a C (some dx)) → H' dx = some (exd dx (putAll fs vs [(f, v)])) → (∀ b, b ≠ a → b ≠ dx → H' b = H b) → Q () s') :
    wpAny (model X.prog X.w) X.A (assignInOrder ((assignEach (.Attribute (.Name self p) f p' :: es) X.env).map (·.2)) us) Q X.xe s := by
  cases r with
  | @cons _ u _ us rv rs =>
    show wpAny _ _ (do holding us (assign (.Attribute (.Name self p) f p') X.env u); assignInOrder ((assignEach es X.env).map (·.2)) us) _ _ _
    refine wpAny_bind (wpAny_holding (assign_attr (thn ((pe_var (pos := p) hN hv hd hcd).run pins s σ H (fun x H1 => x = .ref a ∧ H1 = H) I ⟨.ref a, hs, rfl, rfl⟩) fun ov s1 ⟨x, H1, I1, rx, ex, eH⟩ => ?_)))
    subst ex
    subst eH
    obtain rfl : ov = Value.ref a := rx
    refine ost_newB T I1 ea (hf f List.mem_cons_self) rv fun dx s' hn ne J => ?_
    have ed : upd (upd H1 dx (exd dx [(f, v)])) a (exo a C (some dx)) dx = some (exd dx [(f, v)]) := by rw [upd_ne ne, upd_same]
    refine attrs_old T hN hv hd hcd t (fun g hg => hf g (List.mem_cons_of_mem _ hg)) rs hl J hs upd_same ed ne (by simp; omega) fun s2 J2 => ?_
    refine q s2 dx _ J2 hn ne (by rw [upd_ne (Ne.symm ne), upd_same]) upd_same fun b h1 h2 => by rw [upd_ne h2, upd_ne h1, upd_ne h2]
end
end TM
namespace TM
open PySem PySem.Spec PyProof.Rows L2
inductive NamesE (N : List Str) (sc : Scope) : Nat → List Expr → Prop
  | nil {i : Nat} : NamesE N sc i []
  | cons {i : Nat} {x : Str} {p : Pos} {es : List Expr} : N[i]? = some x → sc.names.lookup x = some .local → (x == ("__debug__" : Str)) = false → (x == ("__classdict__" : Str)) = false → NamesE N sc (i + 1) es → NamesE N sc i (.Name x p :: es)
section
variable {X : Cx}
theorem pa_names : ∀ {i : Nat} {es : List Expr}, NamesE X.N X.env.scope i es → PA X es (fun σ H Q => ∃ ws : List V, ws.length = es.length ∧ (∀ (j : Nat) w, ws[j]? = some w → σ[i + j]? = some (some w)) ∧ Q ws H)
  | i, _, .nil => ⟨fun pos pins s σ H Q I h => by
    obtain ⟨ws, hl, _, q⟩ := h
    have e := List.eq_nil_of_length_eq_zero hl
    subst e
    exact Calls.spliced_nil ⟨[], H, I, .nil, q⟩⟩
  | i, _, .cons (x := x) (p := p) (es := es) hN hv hd hcd t => ⟨fun pos pins s σ H Q I h => by
    obtain ⟨ws, hl, hs, q⟩ := h
    cases ws with
    | nil => cases hl
    | cons w ws =>
      refine (pa_cons (pe_var (X := X) (pos := p) hN (.inl hv) hd hcd) (pa_names t)).run pos pins s σ H Q I ⟨w, hs 0 w rfl, ws, Nat.succ.inj hl, fun j z hz => ?_, q⟩
      have := hs (j + 1) z hz
      rw [show i + (j + 1) = i + 1 + j by omega] at this
      exact this⟩
end
section
variable {X : Cx} {pins : List (Addr × Obj)} {σ : L2.St} {H : Hp} {s : Shared} {C : Addr} {self : Str} {i : Nat} {B newId initId : String} {bmB : List Value}
/-- self.code, self.x, .. = "..", x, .. -/
theorem init_st1 (hc : X.calm = true) (T : OxB X.K C B newId initId bmB) (hN : X.N[i]? = some self) (hv : Vis X.env.scope self) (hd : (self == ("__debug__" : Str)) = false) (hcd : (self == ("__classdict__" : Str)) = false)
    {es ns : List Expr} {f code : Str} {fs : List Str} {a : Addr} {p p' p1 p2 pos : Pos} {k1 k2 j : Nat} {ws : List V} (t : SelfAt self es fs) (hf : ∀ g ∈ f :: fs, PySem.W.findIn X.K (.ref C) g = some none) (hn : NamesE X.N X.env.scope j ns) (hl : ws.length = ns.length) (hl2 : ws.length = fs.length) (hz : fs.length ≤ 800)
    (hw : ∀ (l : Nat) w, ws[l]? = some w → σ[j + l]? = some (some w)) (I : Inv X pins σ H s) (hs : σ[i]? = some (some (.ref a))) (ea : H a = some (exo a C none))
    (h2 : swappedStores [.Tuple (.Attribute (.Name self p) f p' :: es) k1 p1] (.Tuple (.Constant (.str code) k2 p2 :: ns) k1 pos) X.env = pure none)
    (hst : (assignEach (.Attribute (.Name self p) f p' :: es) X.env).findIdx? (·.1) = none) (hle : (assignEach (.Attribute (.Name self p) f p' :: es) X.env).length = fs.length + 1) {spos : Pos} (h1' : swapsWithSole [.Tuple (.Attribute (.Name self p) f p' :: es) k1 p1] (.Tuple (.Constant (.str code) k2 p2 :: ns) k1 pos) spos.line X.env = pure false) :
    wpAny (model X.prog X.w) X.A (exec (.Assign [.Tuple (.Attribute (.Name self p) f p' :: es) k1 p1] (.Tuple (.Constant (.str code) k2 p2 :: ns) k1 pos) spos) X.env)
      (fun fl s' => fl = .next ∧ ∃ dx H', Inv X pins σ H' s' ∧ H dx = none ∧ dx ≠ a ∧ H' a = some (exo a C (some dx)) ∧ H' dx = some (exd dx (putAll fs ws [(f, .str code)])) ∧ (∀ b, b ≠ a → H b ≠ none → H' b = H b)) X.xe s := by
  refine Assign_Tuple (thn ((pe_tup (x1 := k1) (pos := pos) (pa_cons (pe_str (j := k2) (pos := p2)) (pa_names hn))).run pins s σ H (fun x H1 => ∃ q, x = .ref q ∧ H q = none ∧ H1 = upd H q (.tup (.str code :: ws))) I ⟨ws, hl, hw, by rw [List.length_cons, hl2, sizeLine_eq]; omega, fun q hq => ⟨q, rfl, hq, rfl⟩⟩) fun v s1 ⟨x, H1, I1, rx, q, ex, hq, eH⟩ => ?_) h1' h2
  subst ex
  obtain rfl : v = Value.ref q := rx
  have hqa : q ≠ a := fun z => by
    rw [z, ea] at hq
    cases hq
  obtain ⟨its, r, it, _⟩ := I1.tuple (a := q) (xs := .str code :: ws) (SqT.of (by rw [eH, upd_same]))
  refine assign_Tuple_tuple (I1.ok.hd hc) it (by rw [hle, List.size_toArray, ← r.length, List.length_cons, hl2]) hst fun h' he => ?_
  have I2 : Inv X pins σ H1 { s1 with heap := h' } := by
    have := I1.kept (h' := h') (t' := s1.toks) fun b u e => he b u (Nat.ne_of_lt (Heap.lt_size e)) e
    exact this
  refine attrs_new T hN hv hd hcd t hf (us := its) (v := .str code) (vs := ws) r hl2 I2 hs (by rw [eH, upd_ne (Ne.symm hqa)]; exact ea) hz fun s' dx H' J hdx hda e1 e2 e3 => ⟨rfl, dx, H', J, ?_, hda, e1, e2, fun b hb hnn => ?_⟩
  · rw [eH] at hdx
    by_cases z : dx = q
    · rw [z]
      exact hq
    · rw [upd_ne z] at hdx
      exact hdx
  · have hbq : b ≠ q := fun z => hnn (by rw [z]; exact hq)
    have hbd : b ≠ dx := fun z => by
      rw [← z, eH, upd_ne hbq] at hdx
      exact hnn hdx
    rw [e3 b hb hbd, eH, upd_ne hbq]
end
end TM
namespace TM
open PySem PySem.Spec PyProof.Rows L2
open NdefX
/-- what the written part says of an own error's class and its __init__ -/
structure ErrC (P : Program) (K : PySem.W.Frag) (mg : Str → Option Value) (C f cc : Addr) (F : NF) (B newId initId : String) (bmB : List Value) : Prop where
  ox : OxB K C B newId initId bmB
  cl : F.cl = [(("__class__" : Str), cc)]
  cell : ∃ cl cld csl, K.lookup cc = some ⟨cl, cld, .cell (some (.ref C)), csl⟩
  fn : ∃ od sl doc pm ctv, K.lookup f = some ⟨.type "function", od, .func (F.fd doc pm ctv), sl⟩
  code : PySem.W.codeIn K (.ref F.c) F.qual = true
  file : ∃ ccl cdd vs ccs file tf, K.lookup F.c = some ⟨ccl, cdd, .fields vs, ccs⟩ ∧ vs[2]? = some (.str file tf) ∧ ((P.main.file : Str) == file) = true
  self : ∃ ar, (F.params.posonlyargs ++ F.params.args).head? = some ar ∧ ar.arg = ("self" : Str)
  sup : mg "super" = none
  top : (P.main.scope.names.lookup ("super" : Str)).isSome = false
  opq : PySem.W.nsIn K cStatics "thirdparty.any" = some none
  ini : PySem.W.ks_superIn K C C "__init__" = some (some (.builtin initId))
  isb : PySem.W.subIn K (.ref C) (.type B) = some true
  sub : PySem.W.mroIn K C (.ref C) = some true
  ks : F.scope.names.lookup ("super" : Str) = some .globalImplicit
  kc : F.scope.names.lookup ("__class__" : Str) = some .free
  ka : F.scope.names.lookup ("self" : Str) = some .local
  kk : F.scope.kind = .function
section
variable {CX : CXT} {P : Program} {w : World} {K : PySem.W.Frag} {mg : Str → Option Value} {base : Heap} {N : List Str} {F : NF} {f : Addr} {A : Around} {outer : List Env} {s0 : Shared} {H0 : Hp} {E : XK} {pins : List (Addr × Obj)} {σ : L2.St} {H : Hp} {s : Shared} {C a dx cc : Addr} {fs : List (Str × V)} {B newId initId : String} {bmB : List Value}
theorem exo_call {X : Cx} {pins : List (Addr × Obj)} {σ : L2.St} {H : Hp} {s : Shared} {A : Around} {E : Value → Shared → Prop} {u : Addr} {rest : List Value} {dv : Option Addr} {Q : Value → Shared → Prop} (T : OxB X.K C B newId initId bmB) (I : Inv X pins σ H s) (e : H a = some (exo a C dv)) (hu : s.heap.get? u = some (PySem.W.kxs_mw initId a)) (hz : rest.length ≤ sizeLine) (h : ∀ s', Inv X pins σ H s' → Q .none s') :
    wpAny (model X.prog X.w) A (call (.ref u) rest) Q E s := by
  obtain ⟨nm, q, N', bs, bm, sn, sub, ab, col, dd, k0, k1, k2, k3, k5, hC, hbm, hps⟩ := T.cls
  obtain ⟨t1, he⟩ := exo_at I.hok e
  have hC' := I.kIn _ _ hC
  obtain ⟨hh, g, d, tk, os⟩ := s
  refine wpAny_call (codeAny_of_tree ?_)
  show wpAny _ A.in1 (callAny (.ref u) ⟨rest, []⟩) _ _ _
  simp only [callAny]
  refine wpAny_bind (wpAny_load hu ?_)
  simp only [PySem.W.kxs_mw, show (Value.type "method-wrapper" == Value.type "method" || Value.type "method-wrapper" == Value.type "builtin_function_or_method" || Value.type "method-wrapper" == Value.type "method-wrapper") = true by decide, if_true]
  refine PySem.W.KFB.if_so (by decide) ?_
  refine wpAny_bind (PySem.W.check_bound_init T.fb.toExcCallFacts hC' he rfl ?_)
  refine wpAny_bind (wpAny_pure (wpAny_pure ?_))
  refine ⟨plainId_quiet T.fb.init.plain _, codeAny_builtin T.fb.initEntry ?_⟩
  refine PySem.W.exc_init_tree (cls := .ref C) (t0 := t1) (dv := dv) (c2 := .none) (c3 := .none) (b4 := .bool false) he hz fun h' k hx _ => ?_
  have J := I.write (t' := tk) (x := a) (e := a) (o := exo a C dv) (by rw [e]; exact True.intro) (.inl rfl) k ⟨_, hx⟩ (exo_ok hx)
  have eu : upd H a (exo a C dv) = H := by
    funext b
    by_cases hb : b = a
    · rw [hb, upd_same, e]
    · rw [upd_ne hb]
  rw [eu] at J
  exact h _ J
theorem init_st2 (T : ErrC P K mg C f cc F B newId initId bmB) (I : Inv (ncx CX P w K mg base N F f A outer s0 H0 E) pins σ H s) (hN : N[0]? = some ("self" : Str)) (hs : σ[0]? = some (some (.ref a))) (ea : H a = some (exo a C (some dx)))
    {ns : List Expr} {ws : List V} {p0 p1 p2 p3 p4 : Pos} (hn : NamesE N F.scope 1 ns) (hl : ws.length = ns.length) (hz : ns.length ≤ 800) (hw : ∀ (l : Nat) w, ws[l]? = some w → σ[1 + l]? = some (some w)) {Q : Flow → Shared → Prop} (q : ∀ s', Inv (ncx CX P w K mg base N F f A outer s0 H0 E) pins σ H s' → Q .next s')
    (hpl : (backTo p3 (starEach ns (envF F f s0.heap.objs.size))).any (·.1) = false) (hst : ns = [] ∨ ∃ e es, ns = e :: es ∧ starEach (e :: es) (envF F f s0.heap.objs.size) = (false, eval e (envF F f s0.heap.objs.size)) :: starEach es (envF F f s0.heap.objs.size))
    {pl : Sem Bool} (he : eval (.Call (.Attribute (.Call (.Name "super" p0) [] [] p1) "__init__" p2) ns [] p3) (envF F f s0.heap.objs.size) = (do
      let ov ← attributeBase (.Call (.Name "super" p0) [] [] p1) "__init__" (envF F f s0.heap.objs.size) (eval (.Call (.Name "super" p0) [] [] p1) (envF F f s0.heap.objs.size))
      standAt p2.atName
      let (fv, first) ← holding [ov] (getMethod ov "__init__" pl)
      callWith p3 fv first (backTo p3 (starEach ns (envF F f s0.heap.objs.size))) [])) (hint : interactive (envF F f s0.heap.objs.size) = false) :
    _root_.PySem.wpAt (model P w) (A.deeper (envF F f s0.heap.objs.size)) (.func F.body (envF F f s0.heap.objs.size)) (exec (.Expr (.Call (.Attribute (.Call (.Name "super" p0) [] [] p1) "__init__" p2) ns [] p3) p4) (envF F f s0.heap.objs.size)) Q (ncx CX P w K mg base N F f A outer s0 H0 E).xe s := by
  have KX : K.In s.heap := I.kIn
  obtain ⟨od, sl, doc, pm, ctv, hf⟩ := T.fn
  obtain ⟨ccl, cdd, vs, ccs, file, tf, hcode, hvs, hfile⟩ := T.file
  obtain ⟨ar, har, hself⟩ := T.self
  obtain ⟨cl, cld, csl, hcell⟩ := T.cell
  obtain ⟨nm, qn, N', bs, bm, sn, sub, ab, col, dd, k0, k1, k2, k3, k5, hC, hbm, hps⟩ := T.ox.cls
  obtain ⟨t1, hea⟩ := exo_at I.hok ea
  obtain ⟨mb, b1, b2⟩ := I.mod.blt
  obtain ⟨m, hns, hloc⟩ := I.loc
  refine ks_wpAt_Expr_any (ks_wpAt_MethodCall (pl := pl) ?_ he) hint
  refine ks_wpAt_super_base (env := envF F f s0.heap.objs.size) T.ks T.kc (by decide) rfl (KX _ _ hf) rfl har rfl (KX _ _ hcode) rfl hvs hfile T.top ?_
  refine PySem.W.ks_loadName_global T.kk T.ks (Calls.loadGlobal_builtin (env := envF F f s0.heap.objs.size) (I.mod.glob.keeps I.bk) T.sup (b1.keeps I.bk) ((b2 _ (by decide)).trans (by decide +kernel : bootBuiltins "super" = some (.type "super"))) ⟨rfl, ?_⟩)
  refine wpAny_loadName_free T.kk T.kc (c := cc) (v := .ref C) (by show F.cl.lookup _ = _; rw [T.cl]; rfl) ⟨_, KX _ _ hcell, rfl⟩ ?_
  obtain ⟨u, ru, lk⟩ := hloc 0 "self" (.ref a) hN hs (.inl T.ka)
  obtain rfl : u = Value.ref a := ru
  have lk' : m "self" = some (.ref a) := by
    rcases lk with ⟨_, z⟩ | ⟨z, _⟩
    · exact z
    · have z' : F.scope.names.lookup ("self" : Str) = some NameKind.cell ∨ F.scope.names.lookup ("self" : Str) = some NameKind.free := z
      rw [T.ka] at z'
      rcases z' with z' | z' <;> cases z'
  rw [hself]
  refine wpAny_loadName_local T.kk T.ka hns lk' ?_
  have hC' := KX _ _ hC
  refine ks_wpAny_isType_cls hC' rfl ⟨rfl, ?_⟩
  obtain ⟨hh, g, d, tk, os⟩ := s
  refine ks_wpAny_call_super hC' rfl hea rfl (fun c z => by cases z) (PySem.W.looks_mroIn KX T.sub) fun h1 hso k1' => ?_
  have I1 : Inv (ncx CX P w K mg base N F f A outer s0 H0 E) pins σ H ⟨h1, g, d, tk, os⟩ := I.kept (t' := tk) k1'
  have KX1 : K.In h1 := I1.kIn
  have hcl : PySem.W.clsIn K C = some { name := nm, bases := bs, mro := .ref C :: bm, ns := N', qualname := qn, hasDict := true, slotNames := sn, subclasses := sub, abstract := ab, collection := col, hasDel := false } := by unfold PySem.W.clsIn; rw [hC] <;> rfl
  have hini := T.ini
  unfold PySem.W.ks_superIn at hini
  rw [hcl] at hini
  have tyA : PySem.W.Looks (model P w) h1 (typeOf (.ref a)) (.ref C) := fun A Q E s kp q => wpAny_typeOf_ref (kp _ _ (k1' _ _ hea)) q
  have hI : PySem.W.Looks (model P w) h1 (isInstance (.ref a) (.type B)) true := tyA.andThen (PySem.W.looks_subIn KX1 T.isb)
  have hne : a ≠ C := fun z => by
    have e1 := k1' _ _ hea
    rw [z, KX1 _ _ hC] at e1
    cases e1
  refine PySem.W.kxs_getMethod T.ox.kx hso (PySem.W.looks_opaque KX1 T.opq) (l₀ := .ref C :: bm) ((PySem.W.looks_clsIn KX1 hcl).andThen .now) rfl KX1 hini hI hne (by decide) ?_
  have k2' : ∀ b o, h1.get? b = some o → (h1.push (PySem.W.kxs_mw initId a)).get? b = some o := fun b o e => Heap.get?_push_of_some _ e
  have I2 : Inv (ncx CX P w K mg base N F f A outer s0 H0 E) pins σ H ⟨h1.push (PySem.W.kxs_mw initId a), g, d, tk + 1, os⟩ := I1.kept (t' := tk + 1) k2'
  have hu : (h1.push (PySem.W.kxs_mw initId a)).get? h1.objs.size = some (PySem.W.kxs_mw initId a) := Heap.get?_push_at rfl rfl
  have I3 : Inv (ncx CX P w K mg base N F f A outer s0 H0 E) ((h1.objs.size, PySem.W.kxs_mw initId a) :: pins) σ H ⟨h1.push (PySem.W.kxs_mw initId a), g, d, tk + 1, os⟩ := I2.pins_of fun p hp => by
    rcases List.mem_cons.mp hp with rfl | hp
    · exact ⟨hu, I1.hok.fresh (Nat.le_refl _), fun z => absurd I1.lt (by rw [← z]; exact Nat.lt_irrefl _), I1.nofs (Nat.le_refl _), fun v z => by cases z⟩
    · exact I2.pin p (List.mem_append_right _ hp)
  have fin : ∀ us s4, AP (ncx CX P w K mg base N F f A outer s0 H0 E) ((h1.objs.size, PySem.W.kxs_mw initId a) :: pins) σ (fun vs H' => H' = H ∧ vs.length ≤ 800) us s4 → PySem.W.KxsAt initId h1.objs.size a s4.heap ∧ wpAny (model P w) (A.deeper (envF F f s0.heap.objs.size)) (call (.ref h1.objs.size) us) (fun _ => Q .next) (ncx CX P w K mg base N F f A outer s0 H0 E).xe s4 := by
    intro us s4 ⟨vs, H4, I4, r4, e4, l4⟩
    subst e4
    have hu4 := (I4.pin (h1.objs.size, PySem.W.kxs_mw initId a) (List.mem_append_right _ List.mem_cons_self)).1
    have I5 : Inv (ncx CX P w K mg base N F f A outer s0 H0 E) pins σ H4 s4 := I4.pins_of fun p hp => I4.pin p (List.mem_append_right _ (List.mem_cons_of_mem _ hp))
    exact ⟨hu4, exo_call T.ox I5 ea hu4 (by rw [← r4.length, sizeLine_eq]; omega) fun s' J => q s' J⟩
  rcases hst with rfl | ⟨e, es, rfl, hst⟩
  · exact PySem.W.kxs_callWith (i := initId) (x := a) rfl (evalArgs_empty (fin [] _ ⟨[], H, I3, .nil, rfl, by simp⟩))
  · refine PySem.W.kxs_callWith (i := initId) (x := a) hpl ?_
    have R := (pa_names (X := ncx CX P w K mg base N F f A outer s0 H0 E) hn).run p3 _ _ σ H (fun vs H' => H' = H ∧ vs.length ≤ 800) I3 ⟨ws, hl, hw, rfl, by omega⟩
    have R' : wpAny (model P w) (A.deeper (envF F f s0.heap.objs.size)) (spliced (backTo p3 (starEach (e :: es) (envF F f s0.heap.objs.size)))) _ _ _ := R
    show wpAny _ _ (evalArgs _ true (backTo p3 (starEach (e :: es) (envF F f s0.heap.objs.size))) []) _ _ _
    rw [hst] at R' ⊢
    exact Calls.evalArgs_plain (thn R' fun us s4 h4 => fin us s4 h4)
end
end TM
namespace TM
open PySem PySem.Spec PyProof.Rows L2 NdefX
/-- what an own error's __init__ promises: the fields, the last stored first -/
def spErr (C : Addr) (code : Str) (xs : List Str) : Sp := fun vs H Q E => ∃ a ws, vs = .ref a :: ws ∧ ws.length = xs.length ∧ H a = some (exo a C none) ∧
  ∀ dx H', H dx = none → dx ≠ a → H' a = some (exo a C (some dx)) → H' dx = some (exd dx (putAll xs ws [("code", .str code)])) → (∀ b, b ≠ a → H b ≠ none → H' b = H b) → Q .non H'
section
variable {CX : CXT} {P : Program} {w : World} {K : PySem.W.Frag} {mg : Str → Option Value} {base : Heap} {F : NF} {f cc C : Addr} {k : Nat} {B newId initId : String} {bmB : List Value}
theorem cells_cls {s : Shared} {H : Hp} {outer : List Env} {A : Around} (T : ErrC P K mg C f cc F B newId initId bmB) (e0 : Env0 P w K mg base A outer s H) (hb : base.get? cc ≠ none) : CellsAt F.cl ["__class__"] [none] s.heap H := by
  have KX : K.In s.heap := e0.mod.kin.keeps fun b o e => (e0.bs b o e).1
  obtain ⟨cl, cld, csl, hcell⟩ := T.cell
  have hH : H cc = none := (e0.bs cc _ (e0.mod.kin _ _ hcell)).2
  have one : ∀ y c, F.cl.lookup y = some c → y = "__class__" ∧ c = cc := fun y c e => by
    rw [T.cl] at e
    simp only [List.lookup] at e
    split at e
    · rename_i h
      cases e
      exact ⟨by simpa using h, rfl⟩
    · cases e
  refine ⟨rfl, fun y c e => ?_, fun x y c e1 e2 => by rw [(one x c e1).1, (one y c e2).1], fun i y e => ?_⟩
  · obtain ⟨_, rfl⟩ := one y c e
    exact ⟨hH, _, _, KX _ _ hcell, rfl⟩
  · cases i with
    | zero =>
      have : y = "__class__" := by simpa using e.symm
      subst this
      exact ⟨cc, by rw [T.cl]; rfl, fun v hv => by cases hv⟩
    | succ i => simp at e
/-- the __init__ of an own error with parameters -/
theorem err_fn (T : ErrC P K mg C f cc F B newId initId bmB) {N ps xs : List Str} {code : Str} {es ns ns' : List Expr} {p p' p1 p2 q0 q1 q2 q3 q4 pos spos : Pos} {k1 k2 : Nat} {fd : FuncData} (hfd : ∃ oc od sl, K.lookup f = some ⟨oc, od, .func fd, sl⟩) (S : NScope N ps ["__class__"] F.scope) (hps : ps = ("self" : Str) :: xs) (hN : N = ps ++ [("__class__" : Str)])
    (hbody : F.body = [.Assign [.Tuple (.Attribute (.Name "self" p) "code" p' :: es) k1 p1] (.Tuple (.Constant (.str code) k2 p2 :: ns) k1 pos) spos, .Expr (.Call (.Attribute (.Call (.Name "super" q0) [] [] q1) "__init__" q2) ns' [] q3) q4])
    (t : SelfAt "self" es xs) (hn : NamesE N F.scope 1 ns) (hln : ns.length = xs.length) (hn' : NamesE N F.scope 1 ns') (hln' : ns'.length = xs.length) (hz : xs.length ≤ 700) (hf : ∀ g ∈ ("code" : Str) :: xs, PySem.W.findIn K (.ref C) g = some none)
    (h1 : ∀ L, swapsWithSole [.Tuple (.Attribute (.Name "self" p) "code" p' :: es) k1 p1] (.Tuple (.Constant (.str code) k2 p2 :: ns) k1 pos) spos.line (envF F f L) = pure false)
    (h2 : ∀ L, swappedStores [.Tuple (.Attribute (.Name "self" p) "code" p' :: es) k1 p1] (.Tuple (.Constant (.str code) k2 p2 :: ns) k1 pos) (envF F f L) = pure none)
    (h3 : ∀ L, (assignEach (.Attribute (.Name "self" p) "code" p' :: es) (envF F f L)).findIdx? (·.1) = none) (h4 : ∀ L, (assignEach (.Attribute (.Name "self" p) "code" p' :: es) (envF F f L)).length = xs.length + 1)
    (h5 : ∀ L, (backTo q3 (starEach ns' (envF F f L))).any (·.1) = false) (h6 : ∀ L, ns' = [] ∨ ∃ e es, ns' = e :: es ∧ starEach (e :: es) (envF F f L) = (false, eval e (envF F f L)) :: starEach es (envF F f L))
    (h7 : ∀ L, ∃ pl : Sem Bool, eval (.Call (.Attribute (.Call (.Name "super" q0) [] [] q1) "__init__" q2) ns' [] q3) (envF F f L) = (do
      let ov ← attributeBase (.Call (.Name "super" q0) [] [] q1) "__init__" (envF F f L) (eval (.Call (.Name "super" q0) [] [] q1) (envF F f L))
      standAt q2.atName
      let (fv, first) ← holding [ov] (getMethod ov "__init__" pl)
      callWith q3 fv first (backTo q3 (starEach ns' (envF F f L))) [])) (h8 : ∀ L, interactive (envF F f L) = false) :
    FnOk P w K mg base CX (k + 1) f fd ps (spErr C code xs) := by
  refine ⟨fun vs H Q E ⟨a, ws, e, hl, _⟩ => by rw [e, List.length_cons, hl, hps, List.length_cons], fun A outer s H args us vs Q E hr e0 hb r hsp => ?_⟩
  obtain ⟨a, ws, ev, hl, ea, q⟩ := hsp
  subst ev
  have KX : K.In s.heap := e0.mod.kin.keeps fun b o e => (e0.bs b o e).1
  have lim : s.heap.NoLimit := e0.mod.nolimit.keeps fun b o e => (e0.bs b o e).1
  obtain ⟨od, sl, doc, pm, ctv, ho⟩ := T.fn
  have efd : fd = F.fd doc pm ctv := by
    obtain ⟨oc', od', sl', z⟩ := hfd
    rw [ho] at z
    cases z
    rfl
  subst efd
  obtain ⟨cl, cld, csl, hcell⟩ := T.cell
  have C' := cells_cls T e0 (by rw [e0.mod.kin _ _ hcell]; exact fun z => by cases z)
  have hlp : (V.ref a :: ws).length = ps.length := by rw [hps, List.length_cons, List.length_cons, hl]
  refine ks_codeAny_call_defAt (fd := F.fd doc pm ctv) (body := F.body) (binds := ps.zip us) hr.depth (KX _ _ ho) rfl lim (PySem.W.codeRec_of KX T.code) rfl hb S.nocell (fun ⟨n, v⟩ hy => S.par n (List.of_mem_zip hy).1) (fun h₁ hns kp => ?_) S.co S.gen S.kind
  show _root_.PySem.wpAt (model P w) (A.deeper (envF F f s.heap.objs.size)) (.func F.body (envF F f s.heap.objs.size)) (execs F.body (envF F f s.heap.objs.size)) _ _ _
  have I : Inv (ncx CX P w K mg base N F f A outer s H E) [] (startF N (.ref a :: ws) [none]) H { s with heap := h₁, toks := s.toks + (ps.zip us).length } := inv_startN S hr.hd e0 hlp r C' hns kp
  have sl0 : (startF N (.ref a :: ws) [none])[0]? = some (some (.ref a)) := rfl
  have slw : ∀ (l : Nat) w, ws[l]? = some w → (startF N (.ref a :: ws) [none])[1 + l]? = some (some w) := fun l w e => by
    unfold startF
    have hlt : l < ws.length := by
      rcases Nat.lt_or_ge l ws.length with h | h
      · exact h
      · rw [List.getElem?_eq_none h] at e
        cases e
    rw [List.getElem?_append_left (by simp; omega), List.getElem?_map, Nat.add_comm, List.getElem?_cons_succ, e]
    rfl
  have hN0 : N[0]? = some ("self" : Str) := by rw [hN, hps]; rfl
  have ex : execs F.body (envF F f s.heap.objs.size) = execs [.Assign [.Tuple (.Attribute (.Name "self" p) "code" p' :: es) k1 p1] (.Tuple (.Constant (.str code) k2 p2 :: ns) k1 pos) spos, .Expr (.Call (.Attribute (.Call (.Name "super" q0) [] [] q1) "__init__" q2) ns' [] q3) q4] (envF F f s.heap.objs.size) := by rw [hbody]
  rw [ex]
  obtain ⟨pl, h7⟩ := h7 s.heap.objs.size
  refine ks_wpAt_execs_cons (wpAt_of_wpAny (thn (init_st1 (X := ncx CX P w K mg base N F f A outer s H E) (i := 0) (j := 1) (self := "self") rfl T.ox hN0 (.inl T.ka) (by decide) (by decide) t hf hn (hl.trans hln.symm) hl (by omega) slw I sl0 ea (h2 _) (h3 _) (h4 _) (h1 _)) fun fl s1 ⟨efl, dx, H1, I1, hdx, hda, e1, e2, e3⟩ => ?_))
  subst efl
  refine ks_wpAt_execs_cons (init_st2 T I1 hN0 sl0 e1 hn' (hl.trans hln'.symm) (by omega) slw (fun s2 I2 => ?_) (h5 _) (h6 _) h7 (h8 _))
  refine wpAt_of_wpAny (wpAny_pure ?_)
  exact ⟨.non, H1, I2.os, I2.bare, I2.base, I2.hok, rfl, q dx H1 hdx hda e1 e2 e3⟩
end
end TM
namespace TM
open PySem PySem.Spec PyProof.Rows L2
/-- an own error's class, its __init__ and what it promises -/
structure Er (P : Program) (w : World) (K : PySem.W.Frag) (mg : Str → Option Value) (base : Heap) (k : Nat) (c code : Str) (xs : List Str) (C : Addr) : Prop where
  gl : mg c = some (.ref C)
  cls : ∃ (fI : Addr) (fd : FuncData) (ps : List Str) (B newId initId : String) (bmB : List Value), OxB K C B newId initId bmB ∧ PySem.W.findIn K (.ref C) "__init__" = some (some (.ref fI)) ∧ PySem.W.typeIn K (.ref fI) = some (.type "function") ∧
    FnOk P w K mg base (L2.CX P w) k fI fd ps (spErr C code xs) ∧ Binds K fd ps []
def putAllD : List Str → List PyData → List (PyData × PyData) → List (PyData × PyData)
  | f :: fs, d :: ds, r => putAllD fs ds ((.str f, d) :: r)
  | _, _, r => r
def errD (c code : Str) (xs : List Str) (ds : List PyData) : PyData := .dict ((.bool true, .str c) :: putAllD xs ds [(.str "code", .str code)])
theorem putAll_dq {W : Wd} {H : Hp} : ∀ {xs : List Str} {vs : List V} {ds : List PyData} {fs : List (Str × V)} {r : List (PyData × PyData)}, DqAll W H vs ds → DqF W H fs r → DqF W H (putAll xs vs fs) (putAllD xs ds r)
  | [], _, _, _, _, _, h => h
  | _ :: _, _, _, _, _, .nil, h => h
  | _ :: xs, _, _, _, _, .cons r t, h => putAll_dq (xs := xs) t (.cons r h)
def gRaise (c code : Str) (xs : List Str) (fr : Rn → Fr (List Sl)) : Rn → Fr Out := fun ρ => (fr ρ).bindX ρ fun ss => (toDs ss).bind fun ds => if ds.length = xs.length ∧ ds.length ≤ 700 then .ret (.ex ρ (errD c code xs ds)) else .bad
theorem DqAll_length {W : Wd} {H : Hp} : ∀ {vs : List V} {ds : List PyData}, DqAll W H vs ds → vs.length = ds.length
  | _, _, .nil => rfl
  | _, _, .cons _ t => congrArg Nat.succ (DqAll_length t)
end TM
namespace TM
open PySem PySem.Spec PyProof.Rows L2
theorem eob_ok {P : Program} {w : World} {H : Hp} {h : Heap} {a C d : Addr} {o : Obj} {vs : Array Value} (e : h.get? a = some o) (z : Zc (.ref C) (some d) o) (hd : o.data = .fields vs) : ObjOk P w H h a (eob a C d) :=
  ⟨⟨o, vs, e, z.1, z.2, hd⟩, ⟨o, e⟩, fun _ _ ⟨u, v, q, r⟩ k => ⟨u, v, k u q, r⟩⟩
end TM
namespace TM
open PySem PySem.Spec PyProof.Rows L2
def sEFld (cs : List Str) (f : Str) : Sl → Fr Sl
  | .d (.dict ((.bool true, .str c) :: ps)) => if c ∈ cs then (ofO (getF f ps)).bind fun d => .ret (.d d) else .bad
  | _ => .bad
/-- the errors' fields may be read -/
def EFok (K : PySem.W.Frag) (mg : Str → Option Value) (cs : List Str) (f : Str) : Prop := ∀ c ∈ cs, ∃ C, mg c = some (.ref C) ∧ XfC K C ∧ PySem.W.findIn K (.ref C) f = some none
theorem DqK_bl {W : Wd} {H : Hp} {kvs : List (Key × V)} {x : PyData} {b : Bool} {ps : List (PyData × PyData)} (h : DqK W H kvs ((.bool b, x) :: ps)) : False := by
  generalize e : ((PyData.bool b, x) :: ps) = l at h
  cases h with
  | nil => cases e
  | @cons k v d kvs ps' hv ht =>
    have e1 := congrArg Prod.fst (List.cons.inj e).1
    cases k <;> cases e1
theorem DqT_bl {W : Wd} {H : Hp} {kvs : List (List Key × V)} {x : PyData} {b : Bool} {ps : List (PyData × PyData)} (h : DqT W H kvs ((.bool b, x) :: ps)) : False := by
  generalize e : ((PyData.bool b, x) :: ps) = l at h
  cases h with
  | nil => cases e
  | @cons k v d kvs ps' hv ht =>
    have e1 := congrArg Prod.fst (List.cons.inj e).1
    cases e1
theorem rd_err {W : Wd} {B : Bs} {H : Hp} {v : V} {c : Str} {ps : List (PyData × PyData)} (r : RdS W B H v (.d (.dict ((.bool true, .str c) :: ps)))) : ∃ a C d fs, v = .ref a ∧ H a = some (eob a C d) ∧ H d = some (.xd fs) ∧ W.mg c = some (.ref C) ∧ DqF W (offs B H) fs ps := by
  cases r with
  | err h1 h2 m t => exact ⟨_, _, _, _, rfl, offs_sub h1, offs_sub h2, m, t⟩
  | dK h t => exact (DqK_bl t).elim
  | dT h t => exact (DqT_bl t).elim
section
variable {X : Cx} {Z : WX} {e : Expr} {f : Str} {fe : Rn → Fr Sl} {pos : Pos} {cs : List Str}
def tEf (f : Str) (te : TE) : TE := fun σ H Q => te σ H fun x H1 => ∃ a C d fs v, x = .ref a ∧ H1 a = some (eob a C d) ∧ H1 d = some (.xd fs) ∧ fs.lookup f = some v ∧ XfC X.K C ∧ PySem.W.findIn X.K (.ref C) f = some none ∧ Q v H1
theorem pe_ef {te : TE} (he : PE X e te) (hb : attributeBase e f X.env (eval e X.env) = eval e X.env) : PE X (.Attribute e f pos) (tEf (X := X) f te) := by
  refine ⟨fun pins s σ H Q I h => attr_of hb (thn (he.run pins s σ H _ I h) fun u s1 ⟨x, H1, I1, rx, a, C, d, fs, v, ex, ea, ed, l, T, hno, q⟩ => ?_)⟩
  subst ex
  obtain rfl : u = Value.ref a := rx
  obtain ⟨⟨o, vs, ho, hc, hdi, hda⟩, _, _⟩ : ObjOk X.prog X.w H1 s1.heap a (eob a C d) := I1.hok a _ ea
  obtain ⟨mA, hns, hr⟩ : ObjOk X.prog X.w H1 s1.heap d (.xd fs) := I1.hok d _ ed
  obtain ⟨od, hod, hl⟩ := lookIn_ns hns
  obtain ⟨u, hu, ru⟩ := RelO.some_of (v := v) (o := mA f) (by rw [← l]; exact hr f)
  have J : PySem.W.InstAt s1.heap a o C (some od) := ⟨ho, hc, by unfold PySem.W.notCls; rw [hda] <;> rfl, by rw [hdi]; exact hod⟩
  exact HandSPX.exc_get I1.kIn J T.ga T.gg T.exC (PySem.W.findObj_own T.hdC hno rfl (by rw [hl, hu])) (handed_of ru) ⟨v, H1, I1.tok _, ru, q⟩
theorem xe_efld (ok : EFok X.K X.mg cs f) (he : XE X Z e fe) (hb : attributeBase e f X.env (eval e X.env) = eval e X.env := by rfl) : XE X Z (.Attribute e f pos) (f1 (sEFld cs f) fe) :=
  xe_of (pe_ef he hb) fun B ρ σ H Q hR hw => d1 hR hw fun x v H1 e r q => by
    unfold sEFld at q
    split at q
    · rename_i c ps
      split at q
      · rename_i hc
        obtain ⟨d, e1, q⟩ := wp_ofO (Fr.wpx_bind.mp q)
        obtain ⟨a, C, dx, fs, h1, h2, h3, h4, h5⟩ := rd_err r
        obtain ⟨C', g1, g2, g3⟩ := ok c hc
        rw [show X.mg c = some (.ref C) from h4] at g1
        cases g1
        obtain ⟨w, l, dw⟩ := DqF_get h5 e1
        exact ⟨a, C, dx, fs, w, h1, h2, h3, l, g2, g3, q w H1 e dw⟩
      · exact q.elim
    · exact q.elim
end
end TM
namespace TM
open PySem PySem.Spec PyProof.Rows L2 L2H
structure FnC (P : Program) (w : World) (K : PySem.W.Frag) (mg : Str → Option Value) (base : Heap) (k : Nat) (f : Addr) (fd : FuncData) (ps : List Str) (sp : Sp) : Prop where
  len : ∀ vs H Q E, sp vs H Q E → vs.length = ps.length
  run : ∀ (A : Around) (outer : List Env) (s : Shared) (H : Hp) (args : Args) (us : List Value) (vs : List V) (Q : VK) (E : XK), RoomH k A → Env0 P w K mg base A outer s H → BindsTo s fd args (ps.zip us) → Vals vs us → sp vs H Q E → codeAny (model P w) A (.call (.ref f) args) (CR (L2.CX P w) outer P w H s Q E) s
theorem FnC.mono {P : Program} {w : World} {K : PySem.W.Frag} {mg : Str → Option Value} {base : Heap} {j k : Nat} {f : Addr} {fd : FuncData} {ps : List Str} {sp : Sp} (F : FnC P w K mg base j f fd ps sp) (h : j ≤ k) : FnC P w K mg base k f fd ps sp :=
  ⟨F.len, fun A outer s H args us vs Q E hr => F.run A outer s H args us vs Q E (hr.mono h)⟩
end TM
namespace TM
open PySem PySem.Spec PyProof.Rows L2
theorem tabs_told {g : Addr → Option Obj} {tf : List He.Defn} {K : PySem.W.Frag} (h : He.tabsB g tf K = true) {p : He.Defn} (hp : p ∈ tf) : PySem.W.codeHdIn K (He.cT K p).1 (He.cT K p).2 = true ∧ ∃ o, g (He.cT K p).2 = some o ∧ He.emptyTab o = true := by
  unfold He.tabsB at h
  have one := List.all_eq_true.mp h p hp
  rw [Bool.and_eq_true] at one
  refine ⟨one.1, ?_⟩
  cases e : g (He.cT K p).2 with
  | some o => exact ⟨o, rfl, by have := one.2; rw [e] at this; exact this⟩
  | none => have := one.2; rw [e] at this; cases this
end TM
namespace TM
open PySem PySem.Spec PyProof.Rows L2
def efB (K : PySem.W.Frag) (at_ : Str → Addr) (cs : List Str) (f : Str) : Bool := cs.all fun c => xfB K (at_ c) && decide (PySem.W.findIn K (.ref (at_ c)) f = some none)
theorem efok_of {K : PySem.W.Frag} {mg : Str → Option Value} {at_ : Str → Addr} {cs : List Str} {f : Str} (g : ∀ c ∈ cs, mg c = some (.ref (at_ c))) (h : efB K at_ cs f = true) : EFok K mg cs f := fun c hc => by
  have := List.all_eq_true.mp h c hc
  rw [Bool.and_eq_true, decide_eq_true_eq] at this
  exact ⟨at_ c, g c hc, xfB_ok this.1, this.2⟩
end TM
namespace TM
open PySem PySem.Spec PyProof.Rows L2 NdefX
section
variable {X : Cx} {pins : List (Addr × Obj)} {σ : L2.St} {H : Hp} {s : Shared} {C : Addr} {self : Str} {i : Nat} {B newId initId : String} {bmB : List Value}
/-- self.code = ".." -/
theorem init_st0 (T : OxB X.K C B newId initId bmB) (hN : X.N[i]? = some self) (hv : Vis X.env.scope self) (hd : (self == ("__debug__" : Str)) = false) (hcd : (self == ("__classdict__" : Str)) = false)
    {f code : Str} {a : Addr} {p p' p2 spos : Pos} {k2 : Nat} (hf : PySem.W.findIn X.K (.ref C) f = some none) (I : Inv X pins σ H s) (hs : σ[i]? = some (some (.ref a))) (ea : H a = some (exo a C none)) (hsw : swapsWith (.Constant (.str code) k2 p2) (some (.Attribute (.Name self p) f p')) spos.line X.env = pure false) :
    wpAny (model X.prog X.w) X.A (exec (.Assign [.Attribute (.Name self p) f p'] (.Constant (.str code) k2 p2) spos) X.env)
      (fun fl s' => fl = .next ∧ ∃ dx H', Inv X pins σ H' s' ∧ H dx = none ∧ dx ≠ a ∧ H' a = some (exo a C (some dx)) ∧ H' dx = some (exd dx [(f, .str code)]) ∧ (∀ b, b ≠ a → H b ≠ none → H' b = H b)) X.xe s := by
  refine plainObj_wpAny_Assign_Attribute (thn ((pe_str (X := X) (x := code) (j := k2) (pos := p2)).run pins s σ H (fun x H1 => x = .str code ∧ H1 = H) I ⟨rfl, rfl⟩) fun v s1 ⟨y, H1, I1, r1, ey, eH⟩ => thn ((pe_var (pos := p) hN hv hd hcd).run pins s1 σ H1 (fun x H2 => x = .ref a ∧ H2 = H1) I1 ⟨.ref a, hs, rfl, rfl⟩) fun u s2 ⟨x, H2, I2, r2, ex, eH2⟩ => ?_) hsw
  subst ex ey eH eH2
  obtain rfl : u = Value.ref a := r2
  exact ost_newB T I2 ea hf r1 fun dx s' n ne J => ⟨rfl, dx, _, J, n, ne, upd_same, by rw [upd_ne ne, upd_same], fun b hb hn => by rw [upd_ne hb, upd_ne fun z => hn (by rw [z]; exact n)]⟩
end
section
variable {CX : CXT} {P : Program} {w : World} {K : PySem.W.Frag} {mg : Str → Option Value} {base : Heap} {F : NF} {f cc C : Addr} {k : Nat} {B newId initId : String} {bmB : List Value}
/-- the __init__ of an own error without parameters -/
theorem err_fn0 (T : ErrC P K mg C f cc F B newId initId bmB) {N ps : List Str} {code : Str} {p p' p2 q0 q1 q2 q3 q4 spos : Pos} {k2 : Nat} {fd : FuncData} (hfd : ∃ oc od sl, K.lookup f = some ⟨oc, od, .func fd, sl⟩) (S : NScope N ps ["__class__"] F.scope) (hps : ps = [("self" : Str)]) (hN : N = ps ++ [("__class__" : Str)])
    (hbody : F.body = [.Assign [.Attribute (.Name "self" p) "code" p'] (.Constant (.str code) k2 p2) spos, .Expr (.Call (.Attribute (.Call (.Name "super" q0) [] [] q1) "__init__" q2) [] [] q3) q4])
    (hf : PySem.W.findIn K (.ref C) "code" = some none)
    (h1 : ∀ L, swapsWith (.Constant (.str code) k2 p2) (some (.Attribute (.Name "self" p) "code" p')) spos.line (envF F f L) = pure false)
    (h7 : ∀ L, ∃ pl : Sem Bool, eval (.Call (.Attribute (.Call (.Name "super" q0) [] [] q1) "__init__" q2) [] [] q3) (envF F f L) = (do
      let ov ← attributeBase (.Call (.Name "super" q0) [] [] q1) "__init__" (envF F f L) (eval (.Call (.Name "super" q0) [] [] q1) (envF F f L))
      standAt q2.atName
      let (fv, first) ← holding [ov] (getMethod ov "__init__" pl)
      callWith q3 fv first (backTo q3 (starEach [] (envF F f L))) [])) (h8 : ∀ L, interactive (envF F f L) = false) :
    FnOk P w K mg base CX (k + 1) f fd ps (spErr C code []) := by
  refine ⟨fun vs H Q E ⟨a, ws, e, hl, _⟩ => by rw [e, List.length_cons, hl, hps]; rfl, fun A outer s H args us vs Q E hr e0 hb r hsp => ?_⟩
  obtain ⟨a, ws, ev, hl, ea, q⟩ := hsp
  subst ev
  have KX : K.In s.heap := e0.mod.kin.keeps fun b o e => (e0.bs b o e).1
  have lim : s.heap.NoLimit := e0.mod.nolimit.keeps fun b o e => (e0.bs b o e).1
  obtain ⟨od, sl, doc, pm, ctv, ho⟩ := T.fn
  have efd : fd = F.fd doc pm ctv := by
    obtain ⟨oc', od', sl', z⟩ := hfd
    rw [ho] at z
    cases z
    rfl
  subst efd
  obtain ⟨cl, cld, csl, hcell⟩ := T.cell
  have C' := cells_cls T e0 (by rw [e0.mod.kin _ _ hcell]; exact fun z => by cases z)
  have hlp : (V.ref a :: ws).length = ps.length := by rw [hps, List.length_cons, hl]; rfl
  refine ks_codeAny_call_defAt (fd := F.fd doc pm ctv) (body := F.body) (binds := ps.zip us) hr.depth (KX _ _ ho) rfl lim (PySem.W.codeRec_of KX T.code) rfl hb S.nocell (fun ⟨n, v⟩ hy => S.par n (List.of_mem_zip hy).1) (fun h₁ hns kp => ?_) S.co S.gen S.kind
  show _root_.PySem.wpAt (model P w) (A.deeper (envF F f s.heap.objs.size)) (.func F.body (envF F f s.heap.objs.size)) (execs F.body (envF F f s.heap.objs.size)) _ _ _
  have I : Inv (ncx CX P w K mg base N F f A outer s H E) [] (startF N (.ref a :: ws) [none]) H { s with heap := h₁, toks := s.toks + (ps.zip us).length } := inv_startN S hr.hd e0 hlp r C' hns kp
  have sl0 : (startF N (.ref a :: ws) [none])[0]? = some (some (.ref a)) := rfl
  have ws0 : ws = [] := List.eq_nil_of_length_eq_zero hl
  subst ws0
  have hN0 : N[0]? = some ("self" : Str) := by rw [hN, hps]; rfl
  have ex : execs F.body (envF F f s.heap.objs.size) = execs [.Assign [.Attribute (.Name "self" p) "code" p'] (.Constant (.str code) k2 p2) spos, .Expr (.Call (.Attribute (.Call (.Name "super" q0) [] [] q1) "__init__" q2) [] [] q3) q4] (envF F f s.heap.objs.size) := by rw [hbody]
  rw [ex]
  obtain ⟨pl, h7⟩ := h7 s.heap.objs.size
  refine ks_wpAt_execs_cons (wpAt_of_wpAny (thn (init_st0 (X := ncx CX P w K mg base N F f A outer s H E) (i := 0) (self := "self") T.ox hN0 (.inl T.ka) (by decide) (by decide) hf I sl0 ea (h1 _)) fun fl s1 ⟨efl, dx, H1, I1, hdx, hda, e1, e2, e3⟩ => ?_))
  subst efl
  refine ks_wpAt_execs_cons (init_st2 T I1 hN0 sl0 e1 (ws := []) NamesE.nil rfl (by decide) (fun l w e => by simp at e) (fun s2 I2 => ?_) rfl (.inl rfl) h7 (h8 _))
  refine wpAt_of_wpAny (wpAny_pure ?_)
  exact ⟨.non, H1, I2.os, I2.bare, I2.base, I2.hok, rfl, q dx H1 hdx hda e1 e2 e3⟩
end
end TM
namespace TM
open PySem PySem.Spec PyProof.Rows L2 NdefX
/-- the built-in class below an own error -/
structure ErBase (B newId initId : String) (bmB : List Value) : Prop where
  fb : ExcBaseFacts B newId initId bmB
  kx : PySem.W.KxsFacts B initId
  ps : ∀ self : Value, PySem.refuseLoop self "__setattr__" bmB = pure ()
theorem erb_value : ErBase "ValueError" "ValueError.__new__" "ValueError.__init__" [.type "ValueError", .type "Exception", .type "BaseException", .type "object"] := ⟨PySem.F.excBase_ValueError, PySem.W.kxs_ValueError, PySem.F.store_ValueError.passes⟩
theorem erb_lookup : ErBase "LookupError" "LookupError.__new__" "LookupError.__init__" [.type "LookupError", .type "Exception", .type "BaseException", .type "object"] := ⟨PySem.F.excBase_LookupError, PySem.W.kxs_LookupError, PySem.F.store_LookupError.passes⟩
theorem erb_index : ErBase "IndexError" "IndexError.__new__" "IndexError.__init__" [.type "IndexError", .type "LookupError", .type "Exception", .type "BaseException", .type "object"] := ⟨PySem.F.excBase_IndexError, PySem.W.kxs_IndexError, PySem.F.store_IndexError.passes⟩
/-- how an own class of errors stands there -/
def erClB (K : PySem.W.Frag) (C : Addr) (B newId initId : String) (bmB : List Value) : Bool :=
  PySem.W.excInitIn K C bmB newId && (PySem.W.hasDictIn K C && (decide (PySem.W.mroIn K C (.type "object") = some true) && (decide (PySem.W.findIn K (.ref C) "__setattr__" = some (some (.builtin "object.__setattr__"))) && (decide (PySem.W.subIn K (.ref C) (.type "BaseException") = some true) && (decide (PySem.W.typeIn K (.ref C) = some (.type "type")) && (PySem.W.keepIn K (.ref C) &&
  (decide (PySem.W.nsIn K cStatics "thirdparty.any" = some none) && (decide (PySem.W.ks_superIn K C C "__init__" = some (some (.builtin initId))) && (decide (PySem.W.subIn K (.ref C) (.type B) = some true) && decide (PySem.W.mroIn K C (.ref C) = some true))))))))))
def cellClB (K : PySem.W.Frag) (cl : List (Str × Addr)) (C : Addr) : Bool := match cl with
  | [(_, cc)] => (match K.lookup cc with
    | some ⟨_, _, .cell (some (.ref C')), _⟩ => decide (C' = C)
    | _ => false)
  | _ => false
def codeFlB (K : PySem.W.Frag) (cdv : Value) (q file : Str) : Bool := match cdv with
  | .ref c => PySem.W.codeIn K (.ref c) q && (match K.lookup c with
    | some ⟨_, _, .fields vs, _⟩ => (match (vs[2]? : Option Value) with
      | some (.str x _) => decide (x = file)
      | _ => false)
    | _ => false)
  | _ => false
/-- its __init__ at f -/
def erFnB (K : PySem.W.Frag) (C f : Addr) (q file : Str) : Bool := decide (PySem.W.findIn K (.ref C) "__init__" = some (some (.ref f))) && (match K.lookup f with
  | some ⟨.type "function", _, .func fd, _⟩ => cellClB K fd.closure C && codeFlB K fd.code q file
  | _ => false)
abbrev ErV : Type := Option (Str × Str × Arguments × FuncBody × Scope × Addr × List Str × Value × Value × Option Addr × Addr)
def erObs (K : PySem.W.Frag) (f : Addr) : ErV := match K.lookup f with
  | some ⟨_, _, .func fd, _⟩ => some (fd.name, fd.qualname, fd.params, fd.body, fd.scope, fd.globals, fd.closure.map (·.1), fd.defaults, fd.kwdefaults, fd.annotations, fd.builtins)
  | _ => none
structure ErD where
  cls : Str
  qual : Str
  params : Arguments
  body : List Stmt
  scope : Scope
def ErD.val (d : ErD) : ErV := some ("__init__", d.qual, d.params, .stmts d.body, d.scope, mainGlobals, ["__class__"], .none, .none, none, builtinsNs)
section
variable {K : PySem.W.Frag} {C f : Addr} {B newId initId : String} {bmB : List Value}
theorem erCl_ok (b : ErBase B newId initId bmB) (h : erClB K C B newId initId bmB = true) : OxB K C B newId initId bmB ∧ PySem.W.nsIn K cStatics "thirdparty.any" = some none ∧ PySem.W.ks_superIn K C C "__init__" = some (some (.builtin initId)) ∧ PySem.W.subIn K (.ref C) (.type B) = some true ∧ PySem.W.mroIn K C (.ref C) = some true := by
  unfold erClB at h
  simp only [Bool.and_eq_true, decide_eq_true_eq] at h
  obtain ⟨h1, h2, h3, h4, h5, h6, h7, h8, h9, h10, h11⟩ := h
  refine ⟨⟨b.fb, b.kx, ?_, h3, h4, h5, h6, h7⟩, h8, h9, h10, h11⟩
  unfold PySem.W.excInitIn at h1
  cases e : K.lookup C with
  | none =>
    rw [e] at h1
    cases h1
  | some o =>
    rw [e] at h1
    split at h1
    · rename_i dd cd sl ho
      cases ho
      split at h1
      · rename_i C' bm k0 k1 k2 k3 n k5 hm hs
        simp only [Bool.and_eq_true, beq_iff_eq, Bool.not_eq_true'] at h1
        obtain ⟨⟨⟨rfl, rfl⟩, hdel⟩, ht⟩ := h1
        have h2' : cd.hasDict = true := by
          unfold PySem.W.hasDictIn PySem.W.clsIn at h2
          rw [e] at h2
          exact h2
        obtain ⟨nm, bs, mro, ns, qn, hd, sn, sub, ab, col, del⟩ := cd
        dsimp only at hm hdel h2'
        subst hm hdel h2'
        have hsl : sl = #[k0, k1, k2, k3, some (.builtin n), k5] := by
          obtain ⟨l⟩ := sl
          simp only at hs
          rw [hs]
        subst hsl
        exact ⟨nm, qn, ns, bs, bm, sn, sub, ab, col, dd, k0, k1, k2, k3, k5, rfl, fun T => PySem.W.excTail_contains T _ ht, fun x => by rw [refuseLoop_ref]; exact PySem.W.excTail_pass _ (b.ps _) _ ht⟩
      · cases h1
    · cases h1
theorem erFn_ok {q file : Str} {d : ErD} (h : erFnB K C f q file = true) (e : erObs K f = d.val) (hq : d.qual = q) : ∃ (cc : Addr) (F : NF), F.name = "__init__" ∧ F.qual = d.qual ∧ F.params = d.params ∧ F.body = d.body ∧ F.scope = d.scope ∧ F.cl = [(("__class__" : Str), cc)] ∧ (∃ cl cld csl, K.lookup cc = some ⟨cl, cld, .cell (some (.ref C)), csl⟩) ∧
    (∃ od sl doc pm ctv, K.lookup f = some ⟨.type "function", od, .func (F.fd doc pm ctv), sl⟩) ∧ PySem.W.codeIn K (.ref F.c) F.qual = true ∧ (∃ ccl cdd vs ccs tf, K.lookup F.c = some ⟨ccl, cdd, .fields vs, ccs⟩ ∧ vs[2]? = some (.str file tf)) ∧ PySem.W.findIn K (.ref C) "__init__" = some (some (.ref f)) := by
  unfold erFnB at h
  rw [Bool.and_eq_true, decide_eq_true_eq] at h
  obtain ⟨h0, h⟩ := h
  unfold erObs at e
  cases q0 : K.lookup f with
  | none =>
    rw [q0] at h
    cases h
  | some o =>
    rw [q0] at h e
    split at h
    · rename_i od fd sl ho
      cases ho
      rw [Bool.and_eq_true] at h
      obtain ⟨hc, hk⟩ := h
      obtain ⟨n1, n2, n3, n4, n5, n6, n7, n8, n9, n10, n11, n12, n13, n14, n15⟩ := fd
      have e2 : (some (n1, n2, n3, n4, n5, n6, n7.map (·.1), n8, n9, n12, n15) : ErV) = (some ("__init__", d.qual, d.params, FuncBody.stmts d.body, d.scope, mainGlobals, ["__class__"], Value.none, Value.none, none, builtinsNs) : ErV) := e
      simp only [Option.some.injEq, Prod.mk.injEq] at e2
      obtain ⟨g1, g2, g3, g4, g5, g6, g7, g8, g9, g12, g15⟩ := e2
      subst g1 g2 g3 g4 g5 g6 g8 g9 g12 g15
      dsimp only at hc hk
      unfold cellClB at hc
      split at hc
      · rename_i y cc
        have ey : y = "__class__" := by simpa using g7
        subst ey
        split at hc
        · rename_i cl cld C' csl hcc
          have := of_decide_eq_true hc
          subst this
          unfold codeFlB at hk
          split at hk
          · rename_i c
            rw [Bool.and_eq_true] at hk
            obtain ⟨hk1, hk2⟩ := hk
            split at hk2
            · rename_i ccl cdd vs ccs hcl
              split at hk2
              · rename_i x tf hv
                have := of_decide_eq_true hk2
                subst this
                exact ⟨cc, ⟨"__init__", d.qual, d.params, d.body, d.scope, [("__class__", cc)], c⟩, rfl, rfl, rfl, rfl, rfl, rfl, ⟨_, _, _, hcc⟩, ⟨_, _, _, _, _, rfl⟩, by rw [← hq] at hk1; exact hk1, ⟨_, _, _, _, _, hcl, hv⟩, h0⟩
              · cases hk2
            · cases hk2
          · cases hk
        · cases hc
      · cases hc
    · cases h
end
end TM
namespace TM
open PySem PySem.Spec PyProof.Rows L2 NdefX
def findB (K : PySem.W.Frag) (C : Addr) (fs : List Str) : Bool := fs.all fun g => decide (PySem.W.findIn K (.ref C) g = some none)
theorem findB_ok {K : PySem.W.Frag} {C : Addr} {fs : List Str} (h : findB K C fs = true) : ∀ g ∈ fs, PySem.W.findIn K (.ref C) g = some none := fun g hg => of_decide_eq_true (List.all_eq_true.mp h g hg)
theorem sup_eval {o : Expr} {m : Str} {apos pos : Pos} {args : List Expr} {env : Env} (hf : methodCallForm args.length (backTo pos (starEach args env)) (backToKw pos (keywordEach [] env)) = true) (hl : (apos.endLine == pos.line) = true) : ∃ pl : Sem Bool, eval (.Call (.Attribute o m apos) args [] pos) env = (do
      let ov ← attributeBase o m env (eval o env)
      standAt apos.atName
      let (fv, first) ← holding [ov] (getMethod ov m pl)
      callWith pos fv first (backTo pos (starEach args env)) []) := by
  refine ⟨plainOf o env, ?_⟩
  rw [arm_eval_Call]
  have e : (fun ov => methodCall o m apos pos env ov (args.length + ([] : List Keyword).length) (backTo pos (starEach args env)) (backToKw pos (keywordEach [] env))) = fun ov => (do
      let (fv, first) ← holding [ov] (getMethod ov m (plainOf o env))
      callWith pos fv first (backTo pos (starEach args env)) (backToKw pos (keywordEach [] env))) := funext fun ov => mcall_line hf hl
  have e0 : backToKw pos (keywordEach [] env) = [] := rfl
  rw [e0] at e
  show (attributeBase o m env (eval o env) >>= fun ov => standAt apos.atName >>= fun _ => methodCall o m apos pos env ov _ _ _) = _
  rw [e0]
  have e2 : ∀ ov, methodCall o m apos pos env ov (args.length + ([] : List Keyword).length) (backTo pos (starEach args env)) [] = _ := fun ov => congrFun e ov
  refine congrArg (attributeBase o m env (eval o env) >>= ·) (funext fun ov => congrArg (standAt apos.atName >>= ·) (funext fun _ => ?_))
  exact e2 ov
end TM
namespace TM
open PySem PySem.Spec PyProof.Rows L2
/-- a dict with the entries kvs, as it may be written -/
def DE (kvs : List (Key × V)) (o : HO) : Prop := o = .dK kvs ∨ (∃ u, o = .frz u (.dK kvs)) ∨ (kvs = [] ∧ o = .dT [])
/-- a dict with tuple keys -/
def DT (kvs : List (List Key × V)) (o : HO) : Prop := o = .dT kvs ∨ (kvs ≠ [] ∧ ∃ u, o = .frz u (.dT kvs))
def Up (H H' : Hp) : Prop := ∀ a o, H a = some o → H' a = some o ∨ (∃ kvs o', DE kvs o ∧ DE kvs o' ∧ H' a = some o') ∨ ∃ kvs o', DT kvs o ∧ DT kvs o' ∧ H' a = some o'
section
variable {W : Wd} {H H' : Hp}
theorem Up.at (u : Up H H') {a : Addr} {o : HO} (h : H a = some o) (n : ∀ kvs, ¬ DE kvs o) (n2 : ∀ kvs, ¬ DT kvs o) : H' a = some o := by
  rcases u a o h with z | ⟨kvs, _, z, _⟩ | ⟨kvs, _, z, _⟩
  · exact z
  · exact (n _ z).elim
  · exact (n2 _ z).elim
theorem dq_DE {a : Addr} {o : HO} {kvs : List (Key × V)} {ps : List (PyData × PyData)} (e : DE kvs o) (h : H a = some o) (t : DqK W H kvs ps) : Dq W H (.ref a) (.dict ps) := by
  rcases e with rfl | ⟨u, rfl⟩ | ⟨rfl, rfl⟩
  · exact .dK (.inl h) t
  · exact .dK (.inr ⟨u, h⟩) t
  · cases t
    exact .dT (.inl h) .nil
theorem dq_DT {a : Addr} {o : HO} {kvs : List (List Key × V)} {ps : List (PyData × PyData)} (e : DT kvs o) (h : H a = some o) (t : DqT W H kvs ps) : Dq W H (.ref a) (.dict ps) := by
  rcases e with rfl | ⟨n, u, rfl⟩
  · exact .dT (.inl h) t
  · exact .dT (.inr ⟨n, u, h⟩) t
theorem Up.dK (u : Up H H') {a : Addr} {kvs : List (Key × V)} {ps : List (PyData × PyData)} (h : Rd H a (.dK kvs)) (t : DqK W H' kvs ps) : Dq W H' (.ref a) (.dict ps) := by
  have one : ∀ o, H a = some o → DE kvs o → (∀ k, DE k o → k = kvs) → (∀ k, ¬ DT k o) → Dq W H' (.ref a) (.dict ps) := fun o ho e un n2 => by
    rcases u a o ho with z | ⟨k, o', e1, e2, z⟩ | ⟨k, o', e1, _⟩
    · exact dq_DE e z t
    · rw [un k e1] at e2
      exact dq_DE e2 z t
    · exact (n2 _ e1).elim
  rcases h with h | ⟨w, h⟩
  · exact one _ h (.inl rfl) (fun k e => by
      rcases e with e | ⟨_, e⟩ | ⟨_, e⟩ <;> cases e
      rfl) fun k e => by rcases e with e | ⟨_, _, e⟩ <;> cases e
  · exact one _ h (.inr (.inl ⟨w, rfl⟩)) (fun k e => by
      rcases e with e | ⟨_, e⟩ | ⟨_, e⟩ <;> cases e
      rfl) fun k e => by rcases e with e | ⟨_, _, e⟩ <;> cases e
theorem Up.dT (u : Up H H') {a : Addr} {kvs : List (List Key × V)} {ps : List (PyData × PyData)} (h : RdT H a kvs) (t : DqT W H' kvs ps) : Dq W H' (.ref a) (.dict ps) := by
  have one : ∀ o, H a = some o → DT kvs o → (∀ k, DT k o → k = kvs) → (∀ k, DE k o → kvs = [] ∧ k = []) → Dq W H' (.ref a) (.dict ps) := fun o ho e un n2 => by
    rcases u a o ho with z | ⟨k, o', e1, e2, z⟩ | ⟨k, o', e1, e2, z⟩
    · exact dq_DT e z t
    · obtain ⟨rfl, rfl⟩ := n2 _ e1
      cases t
      exact dq_DE e2 z .nil
    · rw [un k e1] at e2
      exact dq_DT e2 z t
  rcases h with h | ⟨n, w, h⟩
  · exact one _ h (.inl rfl) (fun k e => by
      rcases e with e | ⟨_, _, e⟩ <;> cases e
      rfl) fun k e => by
      rcases e with e | ⟨_, e⟩ | ⟨e0, e⟩ <;> cases e
      exact ⟨rfl, e0⟩
  · exact one _ h (.inr ⟨n, w, rfl⟩) (fun k e => by
      rcases e with e | ⟨_, _, e⟩ <;> cases e
      rfl) fun k e => by
      rcases e with e | ⟨_, e⟩ | ⟨e0, e⟩ <;> cases e
variable {Hd Hd' : Hp}
variable {B : Bs} {σ : L2.St} {ρ : Rn} {d : Addr} {od : Obj} {kvs : List (Key × V)}
end
end TM
namespace TM
open PySem PySem.Spec PyProof.Rows L2
/-- how a method's keywords bind behind the instance -/
structure KwM (K : PySem.W.Frag) (fd : FuncData) (ps ks : List Str) (pi : List Nat) : Prop where
  to : ∀ (s : Shared) (u : Value) (ws : List Value), K.In s.heap → ws.length = ks.length → BindsTo s fd ⟨[u], ks.zip ws⟩ (ps.zip (u :: ord .none pi ws))
end TM
namespace TM
open PySem PySem.Spec PyProof.Rows L2
abbrev AlV : Type := (He.AlT × Bool) × List ErV
def erAll (er : List ErD) (K : PySem.W.Frag) : List ErV := er.map fun d => erObs K (He.ma K (He.ga K d.cls) "__init__")
/-- the objects that the names lead to, four steps far, without repair of doubles -/
def asW (g : Addr → Option Obj) : List Addr :=
  let rf := fun a => (match g a with | some o => He.refsD o | none => []).filter fun b => !Nat.beq b mainGlobals
  let l1 := rf mainGlobals
  let l2 := l1.flatMap rf
  let l3 := l2.flatMap rf
  mainGlobals :: (l1 ++ (l2 ++ (l3 ++ (l3.flatMap rf ++ [cStatics]))))
def obsA (fa : List He.Fa) (fn : List He.DefD) (ts : List He.Tab) (tf : List He.Defn) (ex : PySem.W.Frag → Bool) (g : Addr → Option Obj) (as : List Addr) : He.AlT × Bool :=
  (He.obsT fa fn ts (He.frT g as), ex (He.frT g as) && He.tabsB g tf (He.frT g as))
theorem saysA {fa : List He.Fa} {fn : List He.DefD} {ts : List He.Tab} {tf : List He.Defn} {ex : PySem.W.Frag → Bool} {w : World} {h : Heap} {as : List Addr} (e : obsA fa fn ts tf ex h.get? as = (He.valT fn ts w, true)) : He.SaysX fa fn ts tf ex w h (He.frT h.get? as) := by
  have both : (ex (He.frT h.get? as) && He.tabsB h.get? tf (He.frT h.get? as)) = true := congrArg Prod.snd e
  rw [Bool.and_eq_true] at both
  exact { t := congrArg Prod.fst e, more := both.1, hd := fun p hp => (tabs_told both.2 hp).1, out := fun p hp => (tabs_told both.2 hp).2.elim fun o z => He.frT_none z.1 z.2, empty := fun p hp => (tabs_told both.2 hp).2.elim fun o z => z.1.trans (congrArg some (He.emptyTab_eq z.2)) }
structure SaysV (fa : List He.Fa) (fn : List He.DefD) (ts : List He.Tab) (tf : List He.Defn) (ex : PySem.W.Frag → Bool) (er : List ErD) (w : World) (h : Heap) (K : PySem.W.Frag) : Prop where
  x : He.SaysX fa fn ts tf ex w h K
  e : erAll er K = er.map ErD.val
theorem SaysV.er {fa : List He.Fa} {fn : List He.DefD} {ts : List He.Tab} {tf : List He.Defn} {ex : PySem.W.Frag → Bool} {er : List ErD} {w : World} {h : Heap} {K : PySem.W.Frag} (c : SaysV fa fn ts tf ex er w h K) (i : Nat) {d : ErD} (e : er[i]? = some d := by rfl) : erObs K (He.ma K (He.ga K d.cls) "__init__") = d.val := by
  have e2 : (erAll er K)[i]? = (er.map ErD.val)[i]? := by rw [c.e]
  unfold erAll at e2
  rw [List.getElem?_map, List.getElem?_map, e] at e2
  exact Option.some.inj e2
end TM
namespace TM
open PySem PySem.Spec PyProof.Rows L2
abbrev AlW : Type := AlV × List He.FnW
def cmAll (cm : List He5.DefA) (K : PySem.W.Frag) : List He.FnW := cm.map fun d => He5.fnA K (d.at_ K)
/-- the objects, with those that the classmethods' defs lead to -/
def asX (cm : List He5.DefA) (g : Addr → Option Obj) (l : List Addr) : List Addr :=
  match cm with
  | [] => l
  | _ => l ++ cm.flatMap fun d => (match g (d.at_ (He.frT g l)) with | some o => He.refsD o | none => []).filter fun b => !Nat.beq b mainGlobals
def obsWA (fa : List He.Fa) (fn : List He.DefD) (ts : List He.Tab) (tf : List He.Defn) (ex : PySem.W.Frag → Bool) (er : List ErD) (cm : List He5.DefA) (g : Addr → Option Obj) (as : List Addr) : AlW := ((obsA fa fn ts tf ex g as, erAll er (He.frT g as)), cmAll cm (He.frT g as))
def obsW (n : Nat) (fa : List He.Fa) (fn : List He.DefD) (ts : List He.Tab) (tf : List He.Defn) (ex : PySem.W.Frag → Bool) (er : List ErD) (cm : List He5.DefA) (g : Addr → Option Obj) : AlW := obsWA fa fn ts tf ex er cm g (asX cm g (asW g))
structure SaysW (fa : List He.Fa) (fn : List He.DefD) (ts : List He.Tab) (tf : List He.Defn) (ex : PySem.W.Frag → Bool) (er : List ErD) (cm : List He5.DefA) (w : World) (h : Heap) (K : PySem.W.Frag) : Prop where
  v : SaysV fa fn ts tf ex er w h K
  cm : cmAll cm K = cm.map He5.DefA.val
def hookW (n : Nat) (fa : List He.Fa) (fn : List He.DefD) (ts : List He.Tab) (tf : List He.Defn) (ex : PySem.W.Frag → Bool) (er : List ErD) (cm : List He5.DefA) : PySem.W.Hook where
  α := AlW
  obs := fun s => obsW n fa fn ts tf ex er cm s.heap.get?
  val := fun w => (((He.valT fn ts w, true), er.map ErD.val), cm.map He5.DefA.val)
  says := fun w h => ∃ K : PySem.W.Frag, K.In h ∧ SaysW fa fn ts tf ex er cm w h K
  of := fun _ _ e => ⟨_, He.frT_in, ⟨⟨saysA (congrArg Prod.fst (congrArg Prod.fst e)), congrArg Prod.snd (congrArg Prod.fst e)⟩, congrArg Prod.snd e⟩⟩
  keeps := fun _ _ _ ⟨K, hK, c⟩ k => ⟨K, PySem.W.Frag.In.keeps hK k, ⟨⟨{ c.v.x with empty := fun p hp => k _ _ (c.v.x.empty p hp) }, c.v.e⟩, c.cm⟩⟩
theorem obsW_eq {n : Nat} {fa : List He.Fa} {fn : List He.DefD} {ts : List He.Tab} {tf : List He.Defn} {ex : PySem.W.Frag → Bool} {er : List ErD} {cm : List He5.DefA} {g : Addr → Option Obj} {s : Shared} (h : ∀ a, g a = s.heap.get? a) : obsW n fa fn ts tf ex er cm g = (hookW n fa fn ts tf ex er cm).obs s := by
  rw [show g = s.heap.get? from funext h]
  rfl
theorem SaysW.def_ {fa : List He.Fa} {fn : List He.DefD} {ts : List He.Tab} {tf : List He.Defn} {ex : PySem.W.Frag → Bool} {er : List ErD} {cm : List He5.DefA} {w : World} {h : Heap} {K : PySem.W.Frag} (c : SaysW fa fn ts tf ex er cm w h K) (i : Nat) {d : He5.DefA} (e : cm[i]? = some d := by rfl) (ok : d.ok K = true) : ∃ fd, FunD K d.name d.qual d.params d.body d.scope (d.dvs K) (d.kws K) (d.at_ K) fd := by
  have e2 : (cmAll cm K)[i]? = (cm.map He5.DefA.val)[i]? := by rw [c.cm]
  unfold cmAll at e2
  rw [List.getElem?_map, List.getElem?_map, e] at e2
  exact He5.DefA.funD (Option.some.inj e2) ok
end TM
namespace TM
open PySem PySem.Spec PyProof.Rows L2
/-- an own error's class, its __init__ and what it promises, called with keywords -/
structure ErK (P : Program) (w : World) (K : PySem.W.Frag) (mg : Str → Option Value) (base : Heap) (k : Nat) (c code : Str) (xs : List Str) (C : Addr) (ks : List Str) (pi : List Nat) : Prop where
  gl : mg c = some (.ref C)
  cls : ∃ (fI : Addr) (fd : FuncData) (ps : List Str) (B newId initId : String) (bmB : List Value), OxB K C B newId initId bmB ∧ PySem.W.findIn K (.ref C) "__init__" = some (some (.ref fI)) ∧ PySem.W.typeIn K (.ref fI) = some (.type "function") ∧
    FnOk P w K mg base (L2.CX P w) k fI fd ps (spErr C code xs) ∧ KwM K fd ps ks pi
section
variable {X : Cx} {pins : List (Addr × Obj)} {σ : L2.St} {H : Hp} {s : Shared} {Q : VK} {k : Nat} {c code : Str} {xs : List Str} {C : Addr}
theorem err_valC {fI : Addr} {fd : FuncData} {ps : List Str} {B newId initId : String} {bmB : List Value} {R : Result → Shared → Prop} (T : OxB X.K C B newId initId bmB) (iC : PySem.W.findIn X.K (.ref C) "__init__" = some (some (.ref fI))) (tI : PySem.W.typeIn X.K (.ref fI) = some (.type "function"))
    (F : FnOk X.prog X.w X.K X.mg X.base (L2.CX X.prog X.w) k fI fd ps (spErr C code xs)) (hr : Room (k + 1) X.A) (hx : Passes (L2.CX X.prog X.w) X (fun _ _ _ => False)) {us : List Value} {kw : List (Str × Value)} {ws : List Value} {vs : List V} (I : Inv X pins σ H s)
    (bd : ∀ (s1 : Shared) (u : Value), X.K.In s1.heap → (u :: ws).length = ps.length → BindsTo s1 fd ⟨u :: us, kw⟩ (ps.zip (u :: ws))) (short : us.length ≤ sizeLine) (rv : Vals vs ws) (hl : vs.length = xs.length)
    (q : ∀ a d H', H a = none → H d = none → H' a = some (eob a C d) → H' d = some (.xd (putAll xs vs [("code", .str code)])) → (∀ b o, H b = some o → H' b = some o) → Q (.ref a) H')
    (r1 : ∀ v s', EP X pins σ Q v s' → R (.ok (.ret v)) s') (r2 : ∀ er s', X.xe er s' → R (.error er) s') : codeAny (model X.prog X.w) X.A (.call (.ref C) ⟨us, kw⟩) R s := by
  obtain ⟨nm, qn, N', bs, bm, sn, sub, ab, col, dd, k0, k1, k2, k3, k5, hC, hbm, _⟩ := T.cls
  obtain ⟨hh, g, dr, tk, os⟩ := s
  have up1 : hh.objs.size ≤ hh.objs.size + 1 := Nat.le_succ _
  have free1 : H (hh.objs.size + 1) = none := I.hok.fresh up1
  have keepW : ∀ b o, hh.get? b = some o → (TMX.withErr hh C us).get? b = some o := fun b o z => Heap.get?_push_of_some _ (Heap.get?_push_of_some _ z)
  have atW : (TMX.withErr hh C us).get? (hh.objs.size + 1) = some (PySem.HandSPX.excO C hh.objs.size) := by heap_get
  have J : Inv X pins σ (upd H (hh.objs.size + 1) (exo (hh.objs.size + 1) C none)) ⟨TMX.withErr hh C us, g, dr, tk, os⟩ := I.laid (t' := tk) keepW up1 (exo_ok atW)
  have rv2 : Vals (V.ref (hh.objs.size + 1) :: vs) (Value.ref (hh.objs.size + 1) :: ws) := .cons rfl rv
  have promise : spErr C code xs (V.ref (hh.objs.size + 1) :: vs) (upd H (hh.objs.size + 1) (exo (hh.objs.size + 1) C none))
      (fun v H2 => v = .non ∧ ∃ d, H2 (hh.objs.size + 1) = some (exo (hh.objs.size + 1) C (some d)) ∧ H2 d = some (exd d (putAll xs vs [("code", .str code)])) ∧ H d = none ∧ d ≠ hh.objs.size + 1 ∧ Q (.ref (hh.objs.size + 1)) (upd (upd (del H2 (hh.objs.size + 1)) d (.xd (putAll xs vs [("code", .str code)]))) (hh.objs.size + 1) (eob (hh.objs.size + 1) C d))) (fun _ _ _ => False) := by
    refine ⟨_, vs, rfl, hl, upd_same, fun d H2 n1 n2 e1 e2 e3 => ⟨rfl, d, e1, e2, ?_, n2, ?_⟩⟩
    · rw [upd_ne n2] at n1
      exact n1
    · have n3 : H d = none := by rw [upd_ne n2] at n1; exact n1
      refine q _ d _ free1 n3 upd_same (by rw [upd_ne n2, upd_same]) fun b o z => ?_
      have nb : b ≠ hh.objs.size + 1 := ne_of_none z free1
      rw [upd_ne nb, upd_ne (ne_of_none z n3), del_ne nb, e3 b nb (by rw [upd_ne nb, z]; exact fun y => nomatch y), upd_ne nb]
      exact z
  have len2 : (Value.ref (hh.objs.size + 1) :: ws).length = ps.length := rv2.length.symm.trans (F.len _ _ _ _ promise)
  have ow : TMX.OwnCl hh C bmB newId := ⟨_, _, _, _, _, _, _, _, _, _, _, _, _, _, _, _, I.kIn _ _ hC, hbm⟩
  refine TMX.call_ownK T.fb ow (PySem.W.looks_findIn I.kIn iC) (fun self => PySem.W.bind_fn I.kIn self tI) short (codeAny_mono (F.run _ X.stack _ _ _ _ _ _ (fun _ _ _ => False) (hr.make C us kw) (J.env0.make C us kw) (bd ⟨TMX.withErr hh C us, g, dr, tk, os⟩ (.ref (hh.objs.size + 1)) J.kIn len2) rv2 promise) fun r s' z => ?_)
  rcases r with er | fl
  · exact r2 _ _ (hx pins σ _ _ er s' J z)
  · cases fl with
    | ret u =>
      obtain ⟨v, H2, o2, b2, u2, k2', rv', ev, d, ea, ed, nd, nad, q2⟩ := z
      subst ev
      obtain ⟨h2, g2, d2, t2, os'⟩ := s'
      obtain ⟨t0, G, J2, kG, ge, hoe, na⟩ := mk_end0 (d2 := d2) (t2 := t2) I up1 keepW u2 k2' o2 b2 ea ed nd
      have J3 := J2.laidN (t' := t2) (h' := h2) kG ge na (eob_ok (d := d) hoe ⟨rfl, rfl⟩ rfl)
      exact ⟨rv', r1 _ _ ⟨.ref (hh.objs.size + 1), _, J3, rfl, q2⟩⟩
    | _ => exact z.elim
end
def fErr (c code : Str) (xs : List Str) (fr : Rn → Fr (List Sl)) : Rn → Fr Sl := fun ρ => (fr ρ).bind fun ss => (toDs ss).bind fun ds => if ds.length = xs.length ∧ ds.length ≤ 700 then .ret (.d (errD c code xs ds)) else .bad
def fErrK (c code : Str) (xs : List Str) (nk : Nat) (pi : List Nat) (fr : Rn → Fr (List Sl)) : Rn → Fr Sl := fun ρ => (fr ρ).bind fun ss => if ss.length = nk then (toDs (ord (.d .none) pi ss)).bind fun ds => if ds.length = xs.length ∧ ds.length ≤ 700 then .ret (.d (errD c code xs ds)) else .bad else .bad
section
variable {X : Cx} {Z : WX} {k : Nat} {c code : Str} {xs : List Str} {C : Addr} {e : Expr} {es : List Expr} {fr : Rn → Fr (List Sl)} {p pos : Pos}
theorem err_tell {B : Bs} {H H1 H' : Hp} {vs : List V} {ds : List PyData} {Q : VK} {a d : Addr} (mc : X.mg c = some (.ref C)) (e0 : Ext B H H1) (hd : DqAll X.wd (offs B H1) vs ds) (q : KE X.wd B H Q (.d (errD c code xs ds)))
    (na : H1 a = none) (nd : H1 d = none) (ha : H' a = some (eob a C d)) (hd' : H' d = some (.xd (putAll xs vs [("code", .str code)]))) (sm : ∀ b o, H1 b = some o → H' b = some o) : Q (.ref a) H' := by
  have e1 : Ext B H1 H' := ⟨fun a o _ z => sm a o z, e0.ok.ext0 (fun a o _ z => sm a o z) ⟨fun b hb => by
    obtain ⟨cs, i, r, m, n, h1, h2, h5⟩ := e0.ok.bag b hb
    exact ⟨cs, i, r, m, n, sm _ _ h1, sm _ _ h2, h5⟩, fun a q ha => (e0.ok.tab a q ha).up (fun _ z => sm _ _ z) (fun _ z => sm _ _ z)⟩⟩
  exact q _ H' (e0.trans e1) (Dq.err (offs_at ha (e0.ok.free na)) (offs_at hd' (e0.ok.free nd)) mc (putAll_dq (DqAll_mono e1.offs hd) (.cons (.str _) .nil)))
/-- what the arguments tell -/
def AE (X : Cx) (B : Bs) (H : Hp) (c code : Str) (xs : List Str) (Q : VK) (vs : List V) (H1 : Hp) : Prop := ∃ ds, Ext B H H1 ∧ DqAll X.wd (offs B H1) vs ds ∧ vs.length = xs.length ∧ vs.length ≤ 700 ∧ KE X.wd B H Q (.d (errD c code xs ds))
theorem ae_of {B : Bs} {H H1 : Hp} {E : PyData → Prop} {ss : List Sl} {vs : List V} {Q : VK} (e0 : Ext B H H1) (rs : RdSs X.wd B H1 vs ss) (hw : ((toDs ss).bind fun ds => if ds.length = xs.length ∧ ds.length ≤ 700 then Fr.ret (Sl.d (errD c code xs ds)) else .bad).wpx E (KE X.wd B H Q)) : AE X B H c code xs Q vs H1 := by
  obtain ⟨ds, hd, q⟩ := wp_toDs rs (Fr.wpx_bind.mp hw)
  split at q
  · rename_i hl
    have len := DqAll_length hd
    exact ⟨ds, e0, hd, len.trans hl.1, by rw [len]; exact hl.2, q⟩
  · exact q.elim
theorem xe_err (tk : Takes X Z) (R : Er X.prog X.w X.K X.mg X.base k c code xs C) (hr : Room (k + 1) X.A) (ha : XA X Z (e :: es) fr) (hg : Gl X c := by rfl)
    (hdb : (c == ("__debug__" : Str)) = false := by decide) (he : starEach (e :: es) X.env = (false, eval e X.env) :: starEach es X.env := by rfl) (hpl : (backTo pos (starEach es X.env)).any (·.1) = false := by rfl) :
    XE X Z (.Call (.Name c p) (e :: es) [] pos) (fErr c code xs fr) := by
  refine ⟨fun pins s σ H Q I ⟨B, ρ, hR, hw⟩ => ?_⟩
  obtain ⟨fI, fd, ps, Bn, newId, initId, bmB, T, iC, tI, F, hb⟩ := R.cls
  refine wpAny_Call_Name_kw (ld_glob I hg R.gl (PySem.W.callWith_K (h₀ := X.base) I.ok.mod.kin T.kC (thn (ha.run pos pins s σ H (AE X B H c code xs Q) I ⟨B, ρ, hR, Fr.wpx_mono (fun _ z => z) (fun ss q vs H1 e1 rs => ae_of e1 rs q) (Fr.wpx_bind.mp hw)⟩) fun us s1 ⟨vs, H1, I1, rv, ds, e1, hd, hl, hz, q⟩ => ⟨I1.kIn, ?_⟩) he hpl) hdb)
  have short : us.length ≤ sizeLine := by
    rw [← Paired.length rv, sizeLine_eq]
    omega
  refine wpAny_call (err_valC T iC tI F hr (passes_call tk fun _ _ _ _ z => z.elim) I1 (fun s2 u hK hlen => ?_) short rv hl (fun a d H' na nd ha hd' sm => err_tell R.gl e1 hd q na nd ha hd' sm) (fun _ _ z => z) fun _ _ z => z)
  have z := hb s2 (u :: us) hK (by rw [List.append_nil]; exact hlen)
  rw [List.append_nil] at z
  exact z
theorem xe_err0 (tk : Takes X Z) (R : Er X.prog X.w X.K X.mg X.base k c code xs C) (hr : Room (k + 1) X.A) (hg : Gl X c := by rfl) (hdb : (c == ("__debug__" : Str)) = false := by decide) :
    XE X Z (.Call (.Name c p) [] [] pos) (fErr c code xs fNil) := by
  refine ⟨fun pins s σ H Q I ⟨B, ρ, hR, hw⟩ => ?_⟩
  obtain ⟨fI, fd, ps, Bn, newId, initId, bmB, T, iC, tI, F, hb⟩ := R.cls
  obtain ⟨ds, e1, hd, hl, hz, q⟩ := ae_of (X := X) (ss := []) (vs := []) (Ext.refl hR.ok) .nil hw
  refine wpAny_Call_Name_kw (ld_glob I hg R.gl (PySem.W.callWith_K0 I.kIn T.kC (wpAny_call (err_valC T iC tI F hr (passes_call tk fun _ _ _ _ z => z.elim) (us := []) (ws := []) (vs := []) I (fun s2 u hK hlen => ?_) (Nat.zero_le _) .nil hl (fun a d H' na nd ha hd' sm => err_tell R.gl e1 hd q na nd ha hd' sm) (fun _ _ z => z) fun _ _ z => z))) hdb)
  have z := hb s2 [u] hK (by rw [List.append_nil]; exact hlen)
  rw [List.append_nil] at z
  exact z
theorem xe_errK {ks : List Str} {pi : List Nat} {nk : Nat} {kws : List Keyword} (tk : Takes X Z) (R : ErK X.prog X.w X.K X.mg X.base k c code xs C ks pi) (hr : Room (k + 1) X.A) (ha : XK' X Z kws fr) (hn : nk = ks.length := by rfl) (hg : Gl X c := by rfl)
    (hdb : (c == ("__debug__" : Str)) = false := by decide) (hall : (backToKw pos (keywordEach kws X.env)).all (·.1.isSome) = true := by rfl)
    (hks : (backToKw pos (keywordEach kws X.env)).filterMap (·.1) = ks := by rfl) (hpl : ((backTo pos (starEach [] X.env)).any (·.1) || (backToKw pos (keywordEach kws X.env)).any (·.1.isNone)) = false := by rfl) :
    XE X Z (.Call (.Name c p) [] kws pos) (fErrK c code xs nk pi fr) := by
  refine ⟨fun pins s σ H Q I ⟨B, ρ, hR, hw⟩ => ?_⟩
  obtain ⟨fI, fd, ps, Bn, newId, initId, bmB, T, iC, tI, F, hb⟩ := R.cls
  refine wpAny_Call_Name_kw (ld_glob I hg R.gl (PySem.W.callWith_KW0 (first := []) (h₀ := X.base) I.ok.mod.kin T.kC hall (thn (ha.run pos pins s σ H (fun zs H1 => zs.length = ks.length ∧ AE X B H c code xs Q (ord .non pi zs) H1) I ⟨B, ρ, hR, Fr.wpx_mono (fun _ z => z) (fun ss q vs H1 e1 rs => ?_) (Fr.wpx_bind.mp hw)⟩) fun ws s1 ⟨zs, H1, I1, rz, l2, ds, e1, hd, hl, hz, q⟩ => ⟨I1.kIn, ?_⟩) hpl) hdb)
  · split at q
    · rename_i hl
      exact ⟨((Paired.length rs).trans hl).trans hn, ae_of e1 (ord_rds rs pi) q⟩
    · exact q.elim
  · rw [hks]
    exact wpAny_call (err_valC T iC tI F hr (passes_call tk fun _ _ _ _ z => z.elim) (us := []) I1 (fun s2 u hK _ => hb.to s2 u ws hK (rz.length.symm.trans l2)) (Nat.zero_le _) (ord_vals rz pi) hl (fun a d H' na nd ha hd' sm => err_tell R.gl e1 hd q na nd ha hd' sm) (fun _ _ z => z) fun _ _ z => z)
end
end TM
namespace TM
open PySem PySem.Spec PyProof.Rows L2
section
variable {prog : Program} {w : World} {A : Around} {E : Value → Shared → Prop} {K : PySem.W.Frag} {x D : Addr} {ox : Obj} {od : Option Obj}
open PySem.W PySem.Calls in
/-- e.__class__ is found in the class, whatever stands in e's dict -/
theorem cls_found (T : ExcC K D) : findObj K D od "__class__" = some (.bind (.builtin "getset_descriptor.__get__") (.builtin "object.__class__")) := by
  obtain ⟨cd, hcd, _⟩ := any_some T.hd
  unfold findObj
  rw [hcd, Option.bind_some, T.ha, Option.bind_some]
  simp only [T.hn, T.ht, Option.bind_some]
open PySem.W PySem.Calls in
theorem cls_asked {s : Shared} {Q : Option Value → Shared → Prop} (T : ExcC K D) (kin : K.In s.heap) (J : PySem.W.InstAt s.heap x ox D od) (q : Q (some (.ref D)) { s with toks := s.toks + 1 }) : wpAny (model prog w) A (getAttr? (.ref x) "__class__") Q E s := by
  obtain ⟨hh, gg, dd, tt, oo⟩ := s
  have l0 := J.type (M := model prog w)
  have l1 := looks_findIn (M := model prog w) kin T.hg; have l2 := looks_findIn (M := model prog w) kin T.hk
  have l3 := looks_find (M := model prog w) kin J (cls_found (od := od) T)
  have isE : Looks (model prog w) hh (isInstance (.ref x) (.type "BaseException")) true := l0.andThen (looks_subIn kin T.hs)
  have ne : (Value.builtin "BaseException.__getattribute__" == Value.builtin "object.__getattribute__") = false := by decide +kernel
  unfold getAttr? getAttrBy? getAttrBy
  refine wpAny_bind (wpAny_mkText (wpAny_bind (wpAny_attempt (wpAny_holding (wpAny_bind (l0.at (wpAny_bind (l1.at ?_))))))))
  show wpAny _ _ (if (true && Value.builtin "BaseException.__getattribute__" == Value.builtin "object.__getattribute__") = true then _ else _) _ _ _
  rw [ne, if_neg (by decide)]
  unfold getAttrByItsOwn hookBefore
  refine wpAny_bind ?_
  have heap : onTheHeap (Value.ref D) = true := rfl
  rw [if_pos heap]
  refine l2.at (wpAny_bind (wpAny_attempt (wpAny_holding ?_)))
  unfold callGetattribute
  rw [if_neg (show ¬ (false && onTheHeap (Value.builtin "BaseException.__getattribute__")) = true by decide)]
  unfold boundAndCalled
  rw [PySem.F.excAttr_ValueError.ga.bind (.ref x)]
  refine wpAny_bind (wpAny_pure ?_)
  refine (wpAny_call (codeAny_call_builtin PySem.F.excAttr_ValueError.ga.plain PySem.F.entry_bexc_ga ?_) : wpAny _ _ (call (.builtin "BaseException.__getattribute__") [.ref x, .str "__class__" tt]) _ _ _)
  refine @check_slot (model prog w) _ _ ⟨hh, gg, dd, tt + 1, oo⟩ "BaseException.__getattribute__" "BaseException" "__getattribute__" (.ref x) [.str "__class__" tt] [] _ (by decide +kernel) (by decide +kernel) isE (PySem.F.args_bexc_ga _ _) ?_
  unfold Builtin.«object.__getattribute__»
  refine wpAny_bind (wpAny_of_eq (a := ((Value.ref x : Value), [Value.str "__class__" tt])) (by first | rfl | (simp only [slotArgs]; rfl)) ?_)
  refine wpAny_bind (wpAny_pure (wpAny_bind (l0.at (wpAny_bind (l3.at ?_)))))
  refine (wpAny_bind (wpAny_holding (wpAny_call (class_get (s := ⟨hh, gg, dd, tt + 1, oo⟩) (ox := ox) (od := od) kin J T.hm ?_))) : wpAny _ _ (holding [Value.builtin "object.__class__"] (call (.builtin "getset_descriptor.__get__") [.builtin "object.__class__", .ref x, .ref D]) >>= ret) _ _ _)
  refine wpAny_pure ?_
  refine (?_ : wpAny _ _ (handedOut (.ref D)) _ _ _)
  rw [handedOut_of (v := .ref D) rfl]
  first
    | exact wpAny_pure (wpAny_pure q)
    | exact wpAny_pure q
    | exact wpAny_pure (wpAny_bind (wpAny_pure (wpAny_pure q)))
open PySem.W in
theorem kit_err (T : ExcC K D) : KitX K (.ref x) (.ref D) (fun h => ∃ (o : Obj) (u : Option Obj), PySem.W.InstAt h x o D u) where
  ty := fun _ _ _ ⟨_, _, J⟩ => J.type
  it := fun _ _ kin _ => by
    obtain ⟨cd, hcd, _⟩ := any_some T.hd
    unfold clsIn at hcd
    split at hcd
    · rename_i ho
      exact fun _ _ _ _ st q => wpAny_bind (wpAny_loadPart (st _ _ (kin _ _ ho)) (wpAny_pure q))
    · cases hcd
  ne := fun _ tp _ _ _ _ kin htp => by
    obtain ⟨cd, hcd, _⟩ := any_some T.hd
    by_cases e : D = tp
    · subst e
      unfold clsIn at hcd
      split at hcd
      · rename_i ho
        have := (kin _ _ ho).symm.trans htp
        cases this
      · cases hcd
    · exact beq_eq_false_iff_ne.mpr fun z => e (Value.ref.inj z)
  ca := fun kin ⟨_, _, J⟩ q => cls_asked T kin J q
end
/-- what is known of isinstance(an error of the classes cs, what tv is) -/
def IsEf (K : PySem.W.Frag) (mg : Str → Option Value) (cs : List Str) (isA : Str → Bool) (tv : Value) : Prop := ∀ c ∈ cs, ∃ D, mg c = some (.ref D) ∧ ExcC K D ∧ PySem.W.kitOne K (.ref D) tv = some (isA c)
def rIsV (K : PySem.W.Frag) : List V → Hp → VK → Prop := fun xs H Q => ∃ (a D d : Addr) (fs : List (Str × V)) (c : V) (cv : Value) (b : Bool), xs = [.ref a, c] ∧ H a = some (eob a D d) ∧ H d = some (.xd fs) ∧ ExcC K D ∧ (∀ u, RelV c u → u = cv) ∧ PySem.W.kitOne K (.ref D) cv = some b ∧ Q (.bl b) H
theorem call_isV {X : Cx} : CallR X (.builtin "isinstance") (rIsV X.K) := by
  intro pins s σ H xs us Q I r h
  obtain ⟨a, D, d, fs, c, cv, b, rfl, ea, ed, T, hcv, e, q⟩ := h
  cases r with
  | cons rx rr =>
    cases rr with
    | cons rt rr =>
      cases rr
      cases rx
      have ec := hcv _ rt
      subst ec
      obtain ⟨⟨o, vs, ho, hc, hdi, hda⟩, _, _⟩ : ObjOk X.prog X.w H s.heap a (eob a D d) := I.hok a _ ea
      obtain ⟨mA, hns, hr⟩ : ObjOk X.prog X.w H s.heap d (.xd fs) := I.hok d _ ed
      obtain ⟨od, hod, hl⟩ := lookIn_ns hns
      have J : PySem.W.InstAt s.heap a o D (some od) := ⟨ho, hc, by unfold PySem.W.notCls; rw [hda] <;> rfl, by rw [hdi]; exact hod⟩
      exact PySem.W.kia_one (kit_err T) I.kIn ⟨o, some od, J⟩ e (fun z => nomatch z) fun tk => ⟨.bl b, H, I.kept (t' := tk) fun _ _ z => z, rfl, q⟩
/-- isinstance(e, T): as the table tells -/
def sIsE (cs : List Str) (isA : Str → Bool) : Sl → Fr Sl
  | .d (.dict ((.bool true, .str c) :: _)) => if c ∈ cs then .ret (.d (.bool (isA c))) else .bad
  | _ => .bad
section
variable {X : Cx} {Z : WX} {a : Expr} {fa : Rn → Fr Sl} {pos p p2 : Pos} {c : Str} {C : Addr} {cs : List Str} {isA : Str → Bool}
theorem isE_tell {B : Bs} {H1 : Hp} {s : Sl} {v u : V} {cv : Value} {Q : VK} {E : PyData → Prop} (J : IsEf X.K X.mg cs isA cv) (ok : Bok B H1) (r : RdS X.wd B H1 v s) (hcv : ∀ w, RelV u w → w = cv) (q : (sIsE cs isA s).wpx E (KE X.wd B H1 Q)) : rIsV X.K [v, u] H1 Q := by
  unfold sIsE at q
  split at q
  · rename_i c' ps
    split at q
    · rename_i hc
      obtain ⟨a, D, d, fs, h1, h2, h3, h4, h5⟩ := rd_err r
      obtain ⟨D', g1, g2, g3⟩ := J c' hc
      rw [show X.mg c' = some (.ref D) from h4] at g1
      cases g1
      subst h1
      exact ⟨a, D, d, fs, u, cv, _, rfl, h2, h3, g2, hcv, g3, q _ H1 (Ext.refl ok) (Dq.bl _)⟩
    · exact q.elim
  · exact q.elim
theorem xe_isEo (gl : X.mg c = some (.ref C)) (J : IsEf X.K X.mg cs isA (.ref C)) (hm : X.mg "isinstance" = none) (ha : XE X Z a fa) (hg : Gl X "isinstance" := by rfl) (hgt : Gl X c := by rfl) (hdb : (c == ("__debug__" : Str)) = false := by decide)
    (hs : starEach [a, .Name c p2] X.env = (false, eval a X.env) :: starEach [.Name c p2] X.env := by rfl) (hpl : (backTo pos (starEach [.Name c p2] X.env)).any (·.1) = false := by rfl) (hb : bootBuiltins "isinstance" = some (.builtin "isinstance") := by decide +kernel) :
    XE X Z (.Call (.Name "isinstance" p) [a, .Name c p2] [] pos) (f1 (sIsE cs isA) fa) :=
  xe_of (pe_callB call_isV hg hm hb (pa_cons ha (pa_cons (pe_glob (v := .ref C) hgt gl rfl hdb) pa_nil rfl) hs) (by decide) (by decide) hs hpl) fun B ρ σ H Q hR hw => d1 hR hw fun s v H1 e r q => isE_tell J e.ok r (fun _ z => z) (Fr.wpx_mono (fun _ z => z) (fun s k => KE.mono e k) q)
theorem xe_isEb {t : String} (J : IsEf X.K X.mg cs isA (.type t)) (hm : X.mg "isinstance" = none) (hmt : X.mg c = none) (hv : bootBuiltins c = some (.type t)) (ha : XE X Z a fa) (hg : Gl X "isinstance" := by rfl) (hgt : Gl X c := by rfl) (hn : c ≠ "__name__" := by decide) (hdb : (c == ("__debug__" : Str)) = false := by decide)
    (hs : starEach [a, .Name c p2] X.env = (false, eval a X.env) :: starEach [.Name c p2] X.env := by rfl) (hpl : (backTo pos (starEach [.Name c p2] X.env)).any (·.1) = false := by rfl) (hb : bootBuiltins "isinstance" = some (.builtin "isinstance") := by decide +kernel) :
    XE X Z (.Call (.Name "isinstance" p) [a, .Name c p2] [] pos) (f1 (sIsE cs isA) fa) :=
  xe_of (pe_callB call_isV hg hm hb (pa_cons ha (pa_cons (pe_bltn (v := .ty t) hgt hmt hv rfl hn hdb) pa_nil rfl) hs) (by decide) (by decide) hs hpl) fun B ρ σ H Q hR hw => d1 hR hw fun s v H1 e r q => isE_tell J e.ok r (fun _ z => z) (Fr.wpx_mono (fun _ z => z) (fun s k => KE.mono e k) q)
end
end TM
namespace TM
open PySem PySem.Spec PyProof.Rows L2
def excCB (K : PySem.W.Frag) (D : Addr) : Bool := (PySem.W.findIn K (.ref D) "__getattribute__" == some (some (.builtin "BaseException.__getattribute__"))) && ((PySem.W.findIn K (.ref D) "__getattr__" == some none) && ((PySem.W.subIn K (.ref D) (.type "BaseException") == some true) && (PySem.W.hasDictIn K D && ((PySem.W.findIn K (.ref D) "__class__" == some (some (.builtin "object.__class__"))) &&
  ((PySem.W.specialIn K (.builtin "object.__class__") "__get__" == some (some (.builtin "getset_descriptor.__get__"))) && ((PySem.W.takesIn K (.builtin "object.__class__") == some true) && (PySem.W.mroIn K D (.type "object") == some true)))))))
theorem excCB_ok {K : PySem.W.Frag} {D : Addr} (h : excCB K D = true) : ExcC K D := by
  unfold excCB at h
  simp only [Bool.and_eq_true] at h
  obtain ⟨h1, h2, h3, h4, h5, h6, h7, h8⟩ := h
  exact ⟨beq_iff_eq.mp h1, beq_iff_eq.mp h2, beq_iff_eq.mp h3, h4, beq_iff_eq.mp h5, beq_iff_eq.mp h6, beq_iff_eq.mp h7, beq_iff_eq.mp h8⟩
def ieB (K : PySem.W.Frag) (ga : Str → Addr) (cs : List Str) (isA : Str → Str → Bool) (own : List Str) (blt : List String) : Bool := cs.all fun c => excCB K (ga c) && ((own.all fun t => PySem.W.kitOne K (.ref (ga c)) (.ref (ga t)) == some (isA t c)) && blt.all fun t => PySem.W.kitOne K (.ref (ga c)) (.type t) == some (isA (Str.ofString t) c))
section
variable {K : PySem.W.Frag} {mg : Str → Option Value} {ga : Str → Addr} {cs : List Str} {isA : Str → Str → Bool} {own : List Str} {blt : List String}
theorem ieB_own {t : Str} (h : ieB K ga cs isA own blt = true) (hg : ∀ c ∈ cs, mg c = some (.ref (ga c))) (ht : t ∈ own) : IsEf K mg cs (isA t) (.ref (ga t)) := fun c hc => by
  have := List.all_eq_true.mp h c hc
  simp only [Bool.and_eq_true] at this
  exact ⟨ga c, hg c hc, excCB_ok this.1, beq_iff_eq.mp (List.all_eq_true.mp this.2.1 t ht)⟩
theorem ieB_blt {t : String} (h : ieB K ga cs isA own blt = true) (hg : ∀ c ∈ cs, mg c = some (.ref (ga c))) (ht : t ∈ blt) : IsEf K mg cs (isA (Str.ofString t)) (.type t) := fun c hc => by
  have := List.all_eq_true.mp h c hc
  simp only [Bool.and_eq_true] at this
  exact ⟨ga c, hg c hc, excCB_ok this.1, beq_iff_eq.mp (List.all_eq_true.mp this.2.2 t ht)⟩
end
end TM
namespace TM
open PySem PySem.Spec PyProof.Rows L2
def top (i : Nat) : Stmt := PySem.Challenge.pw_tiedmoments_k01_errors_by_themselves.main.body.getD i (.Pass ⟨0, 0, 0, 0⟩)
abbrev sBag : Stmt := top 31
abbrev sDraw : Stmt := top 32
abbrev sOf : Stmt := top 33
section
variable {P : Program} {w : World} {K : PySem.W.Frag} {mg : Str → Option Value} {base : Heap} {f f2 : Addr} {fd fd2 : FuncData}
theorem scD : FnScope ["_law_bag_here", "_law_many", "_law_cell", "_law_digit", "_law_own"] ["_law_bag_here", "_law_many"] (defScope sDraw) := ⟨rfl, rfl, rfl, by decide +kernel, rfl, by decide +kernel, by decide +kernel⟩
theorem ok_draw {k : Nat} (F : FnP K "_law_draw" sDraw f fd) (ml : mg "len" = none) (mi : mg "int" = none) : FnOk P w K mg base (L2.CX P w) (k + 1) f fd ["_law_bag_here", "_law_many"] (spD ⟨K, mg⟩ 2 drawS) := by
  refine F.ok scD (fun vs H Q E h => h.1) fun cdv A outer s H vs Q E hr h => ?_
  obtain ⟨hl, B, ss, ok, rd, ha, w⟩ := h
  obtain ⟨many, rfl, hbig, hpos, q⟩ := wp_drawS w
  cases rd with
  | cons r1 rd =>
  cases rd with
  | cons r2 rd =>
  cases rd
  obtain ⟨b, rfl, hB⟩ := r1
  cases r2
  obtain ⟨cs, i, r, m, n, hb, hc, h0⟩ := ok.bag b hB
  have hne : B.cel ≠ b := ne_of hc hb (by
    intro z
    injection z with z
    cases cs with
    | nil => cases z
    | cons _ _ =>
      injection z with z _
      cases z)
  have bi : bootBuiltins "int" = some (.type "int") := by decide +kernel
  refine ⟨_, PSs.nox (pss_cons (ps_asg (pe_op op_add (pe_ix ix_list (pv 0) pe_int (fun _ _ => rfl)) pe_int) (pg_sub (pv 0) pe_int set_list))
    (Evl.pss_cut (ps_if (PW.pt (pw_and (pt_cmpR op_eq (pe_ix ix_list (pv 0) pe_int (fun _ _ => rfl)) pe_int (nomark _)) (pw_and1 (pt_cmpR op_lt (pe_ix ix_list (pv 0) pe_int (fun _ _ => rfl)) (pe_callB call_len_seq (by rfl) ml boot_len (pa_cons (pe_ix ix_list (pv 0) pe_int (fun _ _ => rfl)) pa_nil)) (nomark _)))))
      (pss_cons (ps_set (i := 2) scD.nd rfl (.inl rfl) (pe_ix ix_list (pe_ix ix_list (pv 0) pe_int (fun _ _ => rfl)) (pe_ix ix_list (pv 0) pe_int (fun _ _ => rfl)) (fun _ _ => rfl)))
      (pss_cons (ps_asg (pe_op op_add (pe_ix ix_list (pv 0) pe_int (fun _ _ => rfl)) pe_int) (pg_sub (pv 0) pe_int set_list))
      (pss_one (ps_if (pt_cmpR op_ge (pv 2) (pe_op op_pow pe_int pe_int) (nomark _))
        (pss_one (ps_asg (pv 2) (pg_sub (pv 0) pe_int set_list)))
        (pss_one (ps_asg (pe_op op_mod (pe_callTy call_int1 (by rfl) mi bi (pa_cons (pe_op op_add (pe_op op_add (pe_op op_mul (pe_ix ix_list (pv 0) pe_int (fun _ _ => rfl)) pe_int) (pe_op op_mul (pe_op op_mod (pe_callTy call_int1 (by rfl) mi bi (pa_cons (pv 2) pa_nil)) pe_int) pe_int)) pe_int) pa_nil)) pe_int) (pg_sub (pv 0) pe_int set_list)))))))
      pss_nil)
    (pss_cons (ps_if (pt_cmpR op_gt (pe_ix ix_list (pv 0) pe_int (fun _ _ => rfl)) pe_int (nomark _))
      (pss_cons (ps_set (i := 3) scD.nd rfl (.inl rfl) (pe_op op_mod (pe_callTy call_int1 (by rfl) mi bi (pa_cons (pe_ix ix_list (pv 0) pe_int (fun _ _ => rfl)) pa_nil)) (pv 1)))
      (pss_cons (ps_asg (pe_op op_fdiv (pe_ix ix_list (pv 0) pe_int (fun _ _ => rfl)) (pv 1)) (pg_sub (pv 0) pe_int set_list))
      (pss_one (ps_ret (pv 3))))) pss_nil)
    (pss_cons (ps_set (i := 4) scD.nd rfl (.inl rfl) (pe_callTy call_int1 (by rfl) mi bi (pa_cons (pe_ix ix_list (pv 0) pe_int (fun _ _ => rfl)) pa_nil)))
    (pss_cons (ps_asg (pe_op op_mod (pe_callTy call_int1 (by rfl) mi bi (pa_cons (pe_op op_add (pe_op op_add (pe_op op_add (pe_op op_pow (pv 4) pe_int) (pe_op op_mul (pv 4) pe_int)) (pe_op op_mul (pe_ix ix_list (pv 0) pe_int (fun _ _ => rfl)) pe_int)) pe_int) pa_nil)) pe_int) (pg_sub (pv 0) pe_int set_list))
    (pss_one (ps_ret (pe_op op_mod (pe_callTy call_int1 (by rfl) mi bi (pa_cons (pe_op op_add (pe_op op_fdiv (pe_ix ix_list (pv 0) pe_int (fun _ _ => rfl)) pe_int) (pe_op op_mul (pe_op op_mod (pe_callTy call_int1 (by rfl) mi bi (pa_cons (pe_ix ix_list (pv 0) pe_int (fun _ _ => rfl)) pa_nil)) pe_int) pe_int)) pa_nil)) (pv 1))))))))), ?_⟩
  obtain ⟨hi0, hr0, hm0, hm1⟩ := h0
  have nbc : ¬ B.mv B.cel := fun z => z.elim (fun z => hne (Option.some.inj (z.symm.trans hB))) fun z => by
    obtain ⟨q, z⟩ := z
    obtain ⟨_, zz, _⟩ := ok.tab _ q z
    rw [hc] at zz
    cases zz
  refine ⟨_, rfl, b, _, 4, _, rfl, rfl, SqL.of hb, rfl, n, 1, rfl, rfl, _, rfl, b, _, 4, 4, rfl, rfl, hb, rfl, ?_⟩
  refine ⟨fun σ' H' => ∃ (i r m n : Int) (c : Option V), σ' = [some (.ref b), some (.int many), c, none, none] ∧ Ext B H H' ∧ H' b = some (.lst [.ref B.cel, .int i, .int r, .int m, .int n]) ∧ 0 ≤ i ∧ 0 ≤ r ∧ 0 ≤ m ∧ m < 2147483549, ?_, ?_⟩
  · refine ⟨_, rfl, b, _, 2, _, rfl, rfl, SqL.of upd_same, rfl, rfl, _, rfl, ?_⟩
    refine ite2 (fun e0 => ?_) (fun e0 => ?_)
    · refine ⟨_, rfl, b, _, 1, _, rfl, rfl, SqL.of upd_same, rfl, _, rfl, b, _, 0, _, rfl, rfl, SqL.of upd_same, rfl, B.cel, cs.map V.int, rfl, .inl (SqL.of (by rw [upd_ne hne]; exact hc)), _, _, rfl, rfl, _, rfl, ?_⟩
      refine ite2 (fun e1 => ?_) (fun e1 => ?_)
      · have hlt : i < (cs.map V.int).length := of_decide_eq_true e1
        rw [List.length_map] at hlt
        have hat : atI (cs.map V.int) i = some (.int (cs[i.toNat]'(by omega))) := by
          have := atI_nat (xs := cs.map V.int) (j := i.toNat) (v := .int (cs[i.toNat]'(by omega))) (by rw [List.getElem?_map, List.getElem?_eq_getElem (by omega)]; rfl)
          rw [Int.toNat_of_nonneg hi0] at this
          exact this
        refine ⟨_, rfl, b, _, 0, _, rfl, rfl, SqL.of upd_same, rfl, _, rfl, b, _, 1, _, rfl, rfl, SqL.of upd_same, rfl, B.cel, _, i, _, rfl, rfl, SqL.of (by rw [upd_ne hne]; exact hc), hat, ?_⟩
        generalize cs[i.toNat]'(by omega) = cell
        refine ⟨_, rfl, b, _, 1, _, rfl, rfl, SqL.of upd_same, rfl, i, 1, rfl, rfl, _, rfl, b, _, 1, 1, rfl, rfl, upd_same, rfl, ?_⟩
        refine ⟨_, rfl, 10, 18, rfl, rfl, ⟨by decide, by decide, by decide⟩, cell, _, rfl, rfl, _, rfl, ?_⟩
        refine ite2 (fun e2 => ?_) (fun e2 => ?_)
        · have hcell : (10 : Int) ^ 18 ≤ cell := of_decide_eq_true e2
          refine ⟨_, rfl, _, rfl, b, _, 2, 2, rfl, rfl, upd_same, rfl, ?_⟩
          refine ⟨i + 1, cell, m, n + 1, some (.int cell), rfl, ?_, upd_same, by omega, Int.le_trans (by decide) hcell, hm0, hm1⟩
          rw [upd_upd, upd_upd]
          exact bag_ext ok hB hc ⟨by omega, Int.le_trans (by decide) hcell, hm0, hm1⟩ ⟨_, hb⟩ hne
        · refine ⟨_, rfl, b, _, 3, _, rfl, rfl, SqL.of upd_same, rfl, m, 40692, rfl, rfl, .inr ⟨by decide, by decide⟩, _, rfl, .inl ⟨cell, rfl, cell, 2147483587, rfl, rfl, (by show (0 : Int) < 2147483587; decide), _, 1009, rfl, rfl, .inr ⟨by decide, by decide⟩, _, _, rfl, rfl, _, 31, rfl, rfl, .inl ⟨_, rfl, _, 2147483549, rfl, rfl, (by show (0 : Int) < 2147483549; decide), _, rfl, b, _, 3, 3, rfl, rfl, upd_same, rfl, ?_⟩⟩⟩
          have g0 := Int.emod_nonneg (m * 40692 + cell % 2147483587 * 1009 + 31) (b := 2147483549) (by decide)
          have g1 := Int.emod_lt_of_pos (m * 40692 + cell % 2147483587 * 1009 + 31) (b := 2147483549) (by decide)
          refine ⟨i + 1, r, _, n + 1, some (.int cell), rfl, ?_, upd_same, by omega, hr0, g0, g1⟩
          rw [upd_upd, upd_upd]
          exact bag_ext ok hB hc ⟨by omega, hr0, g0, g1⟩ ⟨_, hb⟩ hne
      · exact ⟨i, r, m, n + 1, none, rfl, bag_ext ok hB hc ⟨hi0, hr0, hm0, hm1⟩ ⟨_, hb⟩ hne, upd_same, hi0, hr0, hm0, hm1⟩
    · exact ⟨i, r, m, n + 1, none, rfl, bag_ext ok hB hc ⟨hi0, hr0, hm0, hm1⟩ ⟨_, hb⟩ hne, upd_same, hi0, hr0, hm0, hm1⟩
  · rintro σ' H' ⟨i, r, m, n, c, rfl, e, hb', hi, hr', hm, hm'⟩
    have hc' : H' B.cel = some (.lst (cs.map V.int)) := e.same _ _ nbc hc
    refine ⟨_, rfl, b, _, 2, _, rfl, rfl, SqL.of hb', rfl, r, 0, rfl, rfl, _, rfl, ?_⟩
    refine ite2 (fun e0 => ?_) (fun e0 => ?_)
    · refine ⟨_, rfl, b, _, 2, _, rfl, rfl, SqL.of hb', rfl, .inl ⟨r, rfl, _, rfl, r, many, rfl, rfl, hpos, ?_⟩⟩
      refine ⟨_, rfl, b, _, 2, _, rfl, rfl, SqL.of hb', rfl, _, rfl, r, many, rfl, rfl, ⟨hpos, hbig⟩, _, rfl, b, _, 2, 2, rfl, rfl, hb', rfl, ?_⟩
      refine ⟨_, rfl, ?_⟩
      exact q _ (Int.emod_nonneg _ (by omega)) (Int.emod_lt_of_pos _ hpos) _ _ (e.trans (bag_ext e.ok hB hc' ⟨hi, Int.ediv_nonneg hr' (by omega), hm, hm'⟩ ⟨_, hb'⟩ hne)) (Dq.int _)
    · refine ⟨_, rfl, b, _, 3, _, rfl, rfl, SqL.of hb', rfl, .inl ⟨m, rfl, ?_⟩⟩
      refine ⟨_, rfl, m, 3, rfl, rfl, ⟨by decide, by decide, by omega⟩, _, rfl, m, 30011, rfl, rfl, .inr ⟨by decide, by decide⟩, _, _, rfl, rfl, _, rfl, b, _, 4, _, rfl, rfl, SqL.of hb', rfl, n, 1299709, rfl, rfl, .inr ⟨by decide, by decide⟩, _, _, rfl, rfl, _, 70001, rfl, rfl, .inl ⟨_, rfl, _, 2147483549, rfl, rfl, (by show (0 : Int) < 2147483549; decide), _, rfl, b, _, 3, 3, rfl, rfl, hb', rfl, ?_⟩⟩
      have g0 := Int.emod_nonneg (m ^ (3 : Int).toNat + m * 30011 + n * 1299709 + 70001) (b := 2147483549) (by decide)
      have g1 := Int.emod_lt_of_pos (m ^ (3 : Int).toNat + m * 30011 + n * 1299709 + 70001) (b := 2147483549) (by decide)
      refine ⟨_, rfl, b, _, 3, _, rfl, rfl, SqL.of upd_same, rfl, _, 61, rfl, rfl, ⟨by decide, by decide⟩, _, rfl, b, _, 3, _, rfl, rfl, SqL.of upd_same, rfl, .inl ⟨_, rfl, _, 8191, rfl, rfl, (by show (0 : Int) < 8191; decide), _, 53, rfl, rfl, .inr ⟨by decide, by decide⟩, _, _, rfl, rfl, .inl ⟨_, rfl, _, rfl, _, many, rfl, rfl, hpos, ?_⟩⟩⟩
      exact q _ (Int.emod_nonneg _ (by omega)) (Int.emod_lt_of_pos _ hpos) _ _ (e.trans (bag_ext e.ok hB hc' ⟨hi, hr', g0, g1⟩ ⟨_, hb'⟩ hne)) (Dq.int _)
theorem scO : FnScope ["_law_bag_here", "_law_some"] ["_law_bag_here", "_law_some"] (defScope sOf) := ⟨rfl, rfl, rfl, by decide +kernel, rfl, by decide +kernel, by decide +kernel⟩
theorem ok_of {k : Nat} (F : FnP K "_law_of" sOf f fd) (D : Df P w K mg base k "_law_draw" ["_law_bag_here", "_law_many"] 2 drawS f2 fd2) (ml : mg "len" = none) : FnOk P w K mg base (L2.CX P w) (k + 1) f fd ["_law_bag_here", "_law_some"] (spD ⟨K, mg⟩ 2 ofS) :=
  fn_ok F scO fun cdv A outer s H E hr => by exact xb_one (xs_ret (xe_ix ix_any tell_ix (xe_var 1) (xe_call (takes_of rfl rfl rfl rfl) D hr (xa_cons (xe_var 0) (xa_cons (xe_len ml (xe_var 1)) xa_nil))) (fun _ _ => rfl)))
theorem scB : FnScope ["_law_script", "_law_mixed", "_law_cell"] ["_law_script"] (defScope sBag) := ⟨rfl, rfl, rfl, by decide +kernel, rfl, by decide +kernel, by decide +kernel⟩
theorem ok_bag {k : Nat} (F : FnP K "_law_bag" sBag f fd) (mi : mg "int" = none) (mls : mg "list" = none) : FnOk P w K mg base (L2.CX P w) (k + 1) f fd ["_law_script"] (spBag K) := by
  refine F.ok scB (fun vs H Q E h => ?_) fun cdv A outer s H vs Q E hr h => ?_
  · obtain ⟨a, ns, rfl, _⟩ := h
    rfl
  obtain ⟨a, ns, rfl, hS, q⟩ := h
  have bi : bootBuiltins "int" = some (.type "int") := by decide +kernel
  have bl : bootBuiltins "list" = some (.type "list") := by decide +kernel
  refine ⟨_, PSs.nox (pss_cons (ps_set (i := 1) scB.nd rfl (.inl rfl) pe_int)
    (pss_cons (ps_for PassesOwn.never rfl (pi_list (pe_slice sl_list (pv 0) po_none (po_some pe_int))) (pg_name (i := 2) scB.nd rfl (.inl rfl))
      (pss_one (ps_set (i := 1) scB.nd rfl (.inl rfl) (pe_op op_mod (pe_callTy call_int1 (by rfl) mi bi (pa_cons (pe_op op_add (pe_op op_add (pe_op op_mul (pv 1) pe_int) (pe_op op_mod (pe_callTy call_int1 (by rfl) mi bi (pa_cons (pv 2) pa_nil)) pe_int)) pe_int) pa_nil)) pe_int))))
    (pss_one (ps_ret (pe_lst (pa_cons (pe_callTy call_list_of (by rfl) mls bl (pa_cons (pe_slice sl_list (pv 0) po_none (po_some pe_int)) pa_nil)) (pa_cons pe_int (pa_cons pe_int (pa_cons (pv 1) (pa_cons pe_int pa_nil)))))))))), ?_⟩
  obtain ⟨ms, hms⟩ := cutV_ints ns none (some 63)
  refine ⟨_, rfl, 63, rfl, a, _, rfl, hS, fun p hp => ?_⟩
  have s1 : Same H (upd H p (.lst (cutV (ns.map V.int) none (some 63)))) := same_upd hp
  refine ⟨p, rfl, ⟨_, SqL.of upd_same⟩, for_list (K := K) (a := p) (xs := cutV (ns.map V.int) none (some 63)) (fun i σ H' => ∃ (m : Int) (c : Option V), σ = [some (.ref a), some (.int m), c] ∧ 0 ≤ m ∧ m < 2147483549 ∧ H' = upd H p (.lst (cutV (ns.map V.int) none (some 63)))) ⟨12001, none, rfl, by decide, by decide, rfl⟩
    (fun i σ H' _ ⟨_, _, _, _, _, e⟩ => by rw [e]; exact SqL.of upd_same) ?_ ?_⟩
  · rintro i y σ H' hi ⟨m, c, rfl, hm0, hm1, rfl⟩
    obtain ⟨u, rfl⟩ : ∃ u, y = V.int u := by
      rw [hms, List.getElem?_map] at hi
      cases e : ms[i]? with
      | none =>
        rw [e] at hi
        cases hi
      | some u =>
        rw [e] at hi
        exact ⟨u, (Option.some.inj hi).symm⟩
    refine ⟨_, rfl, m, 48271, rfl, rfl, .inr ⟨by decide, by decide⟩, _, rfl, .inl ⟨u, rfl, u, 2147483587, rfl, rfl, (by show (0 : Int) < 2147483587; decide), _, _, rfl, rfl, _, 17, rfl, rfl, .inl ⟨_, rfl, _, 2147483549, rfl, rfl, (by show (0 : Int) < 2147483549; decide), ?_⟩⟩⟩
    exact ⟨_, _, rfl, Int.emod_nonneg _ (by decide), Int.emod_lt_of_pos _ (by decide), rfl⟩
  · rintro σ H' ⟨m, c, rfl, hm0, hm1, rfl⟩
    refine ⟨_, rfl, 63, rfl, a, _, rfl, s1.seq hS, fun p2 hp2 => ?_⟩
    refine ⟨p2, _, rfl, .inl (SqL.of upd_same), fun l hl => ?_⟩
    refine ⟨_, rfl, (by show 5 ≤ sizeLine; decide), fun b hb => ?_⟩
    have s2 : Same H (upd (upd H p (.lst (cutV (ns.map V.int) none (some 63)))) p2 (.lst (cutV (ns.map V.int) none (some 63)))) := s1.trans (same_upd hp2)
    have s3 := s2.trans (same_upd (o := .lst (cutV (ns.map V.int) none (some 63))) hl)
    refine q b l ms m _ (s3.trans (same_upd hb)) (s3.free hb) (s2.free hl) upd_same ?_ hm0 hm1
    rw [upd_ne (fun z => by rw [z, upd_same] at hb; cases hb), upd_same, hms]
end
end TM
namespace TM
open PySem PySem.Spec PyProof.Rows L2
open NdefX
def er_InvalidName : ErD := ⟨"InvalidName", "InvalidName.__init__", defArgs (clsStmt (top 2) 0), defBody (clsStmt (top 2) 0), defScope (clsStmt (top 2) 0)⟩
theorem is_InvalidName {P : Program} {w : World} {K : PySem.W.Frag} {mg : Str → Option Value} {base : Heap} {C f : Addr} {file : Str} (hf : P.main.file = file) (ht : (P.main.scope.names.lookup ("super" : Str)).isSome = false) (gl : mg "InvalidName" = some (.ref C)) (su : mg "super" = none) (h1 : erClB K C "ValueError" "ValueError.__new__" "ValueError.__init__" [.type "ValueError", .type "Exception", .type "BaseException", .type "object"] = true) (h2 : erFnB K C f "InvalidName.__init__" file = true) (hN : findB K C ("code" :: ["value"]) = true) (e : erObs K f = er_InvalidName.val) : Er P w K mg base 1 "InvalidName" "InvalidName" ["value"] C := by
  obtain ⟨ox, opq, ini, isb, sub⟩ := erCl_ok erb_value h1
  obtain ⟨cc, F, n1, n2, n3, n4, n5, ncl, cell, fn, code, ⟨ccl, cdd, vs, ccs, tf, fl1, fl2⟩, fi⟩ := erFn_ok h2 e rfl
  have T : ErrC P K mg C f cc F "ValueError" "ValueError.__new__" "ValueError.__init__" [.type "ValueError", .type "Exception", .type "BaseException", .type "object"] := ⟨ox, ncl, cell, fn, code, ⟨_, _, _, _, _, _, fl1, fl2, by rw [hf]; exact beq_self_eq_true _⟩, by rw [n3]; exact ⟨_, rfl, rfl⟩, su, ht, opq, ini, isb, sub, by rw [n5]; rfl, by rw [n5]; rfl, by rw [n5]; rfl, by rw [n5]; rfl⟩
  obtain ⟨od, sl, doc, pm, ctv, ho⟩ := fn
  have ty : PySem.W.typeIn K (.ref f) = some (.type "function") := by show (List.lookup f K).map (·.cls) = _; rw [ho]; rfl
  obtain ⟨Fn, Fq, Fp, Fb, Fs, Fcl, Fc⟩ := F
  dsimp only at n1 n2 n3 n4 n5 ncl
  subst n1 n2 n3 n4 n5 ncl
  have sc : NScope ["self", "value", "__class__"] ["self", "value"] ["__class__"] er_InvalidName.scope := nscope_by (by decide +kernel)
  have hb : er_InvalidName.body = [.Assign [.Tuple (.Attribute (.Name "self" _) "code" _ :: [.Attribute (.Name "self" _) "value" _]) _ _] (.Tuple (.Constant (.str "InvalidName") _ _ :: [.Name "value" _]) _ _) _, .Expr (.Call (.Attribute (.Call (.Name "super" _) [] [] _) "__init__" _) [.Name "value" _] [] _) _] := rfl
  have FK := err_fn (CX := L2.CX P w) (w := w) (base := base) (k := 0) (N := ["self", "value", "__class__"]) (ps := ["self", "value"]) (xs := ["value"]) (code := "InvalidName") T ⟨_, _, _, ho⟩ sc rfl rfl hb (.cons .nil) (.cons rfl rfl (by decide) (by decide) .nil) rfl (.cons rfl rfl (by decide) (by decide) .nil) rfl (by decide) (findB_ok (K := K) (C := C) (by assumption)) (fun _ => rfl) (fun _ => rfl) (fun _ => rfl) (fun _ => rfl) (fun _ => rfl) (fun _ => .inr ⟨_, _, rfl, rfl⟩) (fun _ => by exact sup_eval rfl rfl) (fun _ => rfl)
  exact ⟨gl, f, _, ["self", "value"], "ValueError", "ValueError.__new__", "ValueError.__init__", [.type "ValueError", .type "Exception", .type "BaseException", .type "object"], ox, fi, ty, FK, .all fun us hl => match us, hl with | [_, _], _ => rfl⟩
def er_InvalidRow : ErD := ⟨"InvalidRow", "InvalidRow.__init__", defArgs (clsStmt (top 3) 0), defBody (clsStmt (top 3) 0), defScope (clsStmt (top 3) 0)⟩
theorem is_InvalidRow {P : Program} {w : World} {K : PySem.W.Frag} {mg : Str → Option Value} {base : Heap} {C f : Addr} {file : Str} (hf : P.main.file = file) (ht : (P.main.scope.names.lookup ("super" : Str)).isSome = false) (gl : mg "InvalidRow" = some (.ref C)) (su : mg "super" = none) (h1 : erClB K C "ValueError" "ValueError.__new__" "ValueError.__init__" [.type "ValueError", .type "Exception", .type "BaseException", .type "object"] = true) (h2 : erFnB K C f "InvalidRow.__init__" file = true) (hN : findB K C ("code" :: ["at"]) = true) (e : erObs K f = er_InvalidRow.val) : Er P w K mg base 1 "InvalidRow" "InvalidRow" ["at"] C := by
  obtain ⟨ox, opq, ini, isb, sub⟩ := erCl_ok erb_value h1
  obtain ⟨cc, F, n1, n2, n3, n4, n5, ncl, cell, fn, code, ⟨ccl, cdd, vs, ccs, tf, fl1, fl2⟩, fi⟩ := erFn_ok h2 e rfl
  have T : ErrC P K mg C f cc F "ValueError" "ValueError.__new__" "ValueError.__init__" [.type "ValueError", .type "Exception", .type "BaseException", .type "object"] := ⟨ox, ncl, cell, fn, code, ⟨_, _, _, _, _, _, fl1, fl2, by rw [hf]; exact beq_self_eq_true _⟩, by rw [n3]; exact ⟨_, rfl, rfl⟩, su, ht, opq, ini, isb, sub, by rw [n5]; rfl, by rw [n5]; rfl, by rw [n5]; rfl, by rw [n5]; rfl⟩
  obtain ⟨od, sl, doc, pm, ctv, ho⟩ := fn
  have ty : PySem.W.typeIn K (.ref f) = some (.type "function") := by show (List.lookup f K).map (·.cls) = _; rw [ho]; rfl
  obtain ⟨Fn, Fq, Fp, Fb, Fs, Fcl, Fc⟩ := F
  dsimp only at n1 n2 n3 n4 n5 ncl
  subst n1 n2 n3 n4 n5 ncl
  have sc : NScope ["self", "at", "__class__"] ["self", "at"] ["__class__"] er_InvalidRow.scope := nscope_by (by decide +kernel)
  have hb : er_InvalidRow.body = [.Assign [.Tuple (.Attribute (.Name "self" _) "code" _ :: [.Attribute (.Name "self" _) "at" _]) _ _] (.Tuple (.Constant (.str "InvalidRow") _ _ :: [.Name "at" _]) _ _) _, .Expr (.Call (.Attribute (.Call (.Name "super" _) [] [] _) "__init__" _) [.Name "at" _] [] _) _] := rfl
  have FK := err_fn (CX := L2.CX P w) (w := w) (base := base) (k := 0) (N := ["self", "at", "__class__"]) (ps := ["self", "at"]) (xs := ["at"]) (code := "InvalidRow") T ⟨_, _, _, ho⟩ sc rfl rfl hb (.cons .nil) (.cons rfl rfl (by decide) (by decide) .nil) rfl (.cons rfl rfl (by decide) (by decide) .nil) rfl (by decide) (findB_ok (K := K) (C := C) (by assumption)) (fun _ => rfl) (fun _ => rfl) (fun _ => rfl) (fun _ => rfl) (fun _ => rfl) (fun _ => .inr ⟨_, _, rfl, rfl⟩) (fun _ => by exact sup_eval rfl rfl) (fun _ => rfl)
  exact ⟨gl, f, _, ["self", "at"], "ValueError", "ValueError.__new__", "ValueError.__init__", [.type "ValueError", .type "Exception", .type "BaseException", .type "object"], ox, fi, ty, FK, .all fun us hl => match us, hl with | [_, _], _ => rfl⟩
def er_DuplicateName : ErD := ⟨"DuplicateName", "DuplicateName.__init__", defArgs (clsStmt (top 4) 0), defBody (clsStmt (top 4) 0), defScope (clsStmt (top 4) 0)⟩
theorem is_DuplicateName {P : Program} {w : World} {K : PySem.W.Frag} {mg : Str → Option Value} {base : Heap} {C f : Addr} {file : Str} (hf : P.main.file = file) (ht : (P.main.scope.names.lookup ("super" : Str)).isSome = false) (gl : mg "DuplicateName" = some (.ref C)) (su : mg "super" = none) (h1 : erClB K C "ValueError" "ValueError.__new__" "ValueError.__init__" [.type "ValueError", .type "Exception", .type "BaseException", .type "object"] = true) (h2 : erFnB K C f "DuplicateName.__init__" file = true) (hN : findB K C ("code" :: ["name"]) = true) (e : erObs K f = er_DuplicateName.val) : Er P w K mg base 1 "DuplicateName" "DuplicateName" ["name"] C := by
  obtain ⟨ox, opq, ini, isb, sub⟩ := erCl_ok erb_value h1
  obtain ⟨cc, F, n1, n2, n3, n4, n5, ncl, cell, fn, code, ⟨ccl, cdd, vs, ccs, tf, fl1, fl2⟩, fi⟩ := erFn_ok h2 e rfl
  have T : ErrC P K mg C f cc F "ValueError" "ValueError.__new__" "ValueError.__init__" [.type "ValueError", .type "Exception", .type "BaseException", .type "object"] := ⟨ox, ncl, cell, fn, code, ⟨_, _, _, _, _, _, fl1, fl2, by rw [hf]; exact beq_self_eq_true _⟩, by rw [n3]; exact ⟨_, rfl, rfl⟩, su, ht, opq, ini, isb, sub, by rw [n5]; rfl, by rw [n5]; rfl, by rw [n5]; rfl, by rw [n5]; rfl⟩
  obtain ⟨od, sl, doc, pm, ctv, ho⟩ := fn
  have ty : PySem.W.typeIn K (.ref f) = some (.type "function") := by show (List.lookup f K).map (·.cls) = _; rw [ho]; rfl
  obtain ⟨Fn, Fq, Fp, Fb, Fs, Fcl, Fc⟩ := F
  dsimp only at n1 n2 n3 n4 n5 ncl
  subst n1 n2 n3 n4 n5 ncl
  have sc : NScope ["self", "name", "__class__"] ["self", "name"] ["__class__"] er_DuplicateName.scope := nscope_by (by decide +kernel)
  have hb : er_DuplicateName.body = [.Assign [.Tuple (.Attribute (.Name "self" _) "code" _ :: [.Attribute (.Name "self" _) "name" _]) _ _] (.Tuple (.Constant (.str "DuplicateName") _ _ :: [.Name "name" _]) _ _) _, .Expr (.Call (.Attribute (.Call (.Name "super" _) [] [] _) "__init__" _) [.Name "name" _] [] _) _] := rfl
  have FK := err_fn (CX := L2.CX P w) (w := w) (base := base) (k := 0) (N := ["self", "name", "__class__"]) (ps := ["self", "name"]) (xs := ["name"]) (code := "DuplicateName") T ⟨_, _, _, ho⟩ sc rfl rfl hb (.cons .nil) (.cons rfl rfl (by decide) (by decide) .nil) rfl (.cons rfl rfl (by decide) (by decide) .nil) rfl (by decide) (findB_ok (K := K) (C := C) (by assumption)) (fun _ => rfl) (fun _ => rfl) (fun _ => rfl) (fun _ => rfl) (fun _ => rfl) (fun _ => .inr ⟨_, _, rfl, rfl⟩) (fun _ => by exact sup_eval rfl rfl) (fun _ => rfl)
  exact ⟨gl, f, _, ["self", "name"], "ValueError", "ValueError.__new__", "ValueError.__init__", [.type "ValueError", .type "Exception", .type "BaseException", .type "object"], ox, fi, ty, FK, .all fun us hl => match us, hl with | [_, _], _ => rfl⟩
def er_InvalidStep : ErD := ⟨"InvalidStep", "InvalidStep.__init__", defArgs (clsStmt (top 5) 0), defBody (clsStmt (top 5) 0), defScope (clsStmt (top 5) 0)⟩
theorem is_InvalidStep {P : Program} {w : World} {K : PySem.W.Frag} {mg : Str → Option Value} {base : Heap} {C f : Addr} {file : Str} (hf : P.main.file = file) (ht : (P.main.scope.names.lookup ("super" : Str)).isSome = false) (gl : mg "InvalidStep" = some (.ref C)) (su : mg "super" = none) (h1 : erClB K C "ValueError" "ValueError.__new__" "ValueError.__init__" [.type "ValueError", .type "Exception", .type "BaseException", .type "object"] = true) (h2 : erFnB K C f "InvalidStep.__init__" file = true) (hN : findB K C ("code" :: ["process", "index"]) = true) (e : erObs K f = er_InvalidStep.val) : Er P w K mg base 1 "InvalidStep" "InvalidStep" ["process", "index"] C := by
  obtain ⟨ox, opq, ini, isb, sub⟩ := erCl_ok erb_value h1
  obtain ⟨cc, F, n1, n2, n3, n4, n5, ncl, cell, fn, code, ⟨ccl, cdd, vs, ccs, tf, fl1, fl2⟩, fi⟩ := erFn_ok h2 e rfl
  have T : ErrC P K mg C f cc F "ValueError" "ValueError.__new__" "ValueError.__init__" [.type "ValueError", .type "Exception", .type "BaseException", .type "object"] := ⟨ox, ncl, cell, fn, code, ⟨_, _, _, _, _, _, fl1, fl2, by rw [hf]; exact beq_self_eq_true _⟩, by rw [n3]; exact ⟨_, rfl, rfl⟩, su, ht, opq, ini, isb, sub, by rw [n5]; rfl, by rw [n5]; rfl, by rw [n5]; rfl, by rw [n5]; rfl⟩
  obtain ⟨od, sl, doc, pm, ctv, ho⟩ := fn
  have ty : PySem.W.typeIn K (.ref f) = some (.type "function") := by show (List.lookup f K).map (·.cls) = _; rw [ho]; rfl
  obtain ⟨Fn, Fq, Fp, Fb, Fs, Fcl, Fc⟩ := F
  dsimp only at n1 n2 n3 n4 n5 ncl
  subst n1 n2 n3 n4 n5 ncl
  have sc : NScope ["self", "process", "index", "__class__"] ["self", "process", "index"] ["__class__"] er_InvalidStep.scope := nscope_by (by decide +kernel)
  have hb : er_InvalidStep.body = [.Assign [.Tuple (.Attribute (.Name "self" _) "code" _ :: [.Attribute (.Name "self" _) "process" _, .Attribute (.Name "self" _) "index" _]) _ _] (.Tuple (.Constant (.str "InvalidStep") _ _ :: [.Name "process" _, .Name "index" _]) _ _) _, .Expr (.Call (.Attribute (.Call (.Name "super" _) [] [] _) "__init__" _) [.Name "process" _, .Name "index" _] [] _) _] := rfl
  have FK := err_fn (CX := L2.CX P w) (w := w) (base := base) (k := 0) (N := ["self", "process", "index", "__class__"]) (ps := ["self", "process", "index"]) (xs := ["process", "index"]) (code := "InvalidStep") T ⟨_, _, _, ho⟩ sc rfl rfl hb (.cons (.cons .nil)) (.cons rfl rfl (by decide) (by decide) (.cons rfl rfl (by decide) (by decide) .nil)) rfl (.cons rfl rfl (by decide) (by decide) (.cons rfl rfl (by decide) (by decide) .nil)) rfl (by decide) (findB_ok (K := K) (C := C) (by assumption)) (fun _ => rfl) (fun _ => rfl) (fun _ => rfl) (fun _ => rfl) (fun _ => rfl) (fun _ => .inr ⟨_, _, rfl, rfl⟩) (fun _ => by exact sup_eval rfl rfl) (fun _ => rfl)
  exact ⟨gl, f, _, ["self", "process", "index"], "ValueError", "ValueError.__new__", "ValueError.__init__", [.type "ValueError", .type "Exception", .type "BaseException", .type "object"], ox, fi, ty, FK, .all fun us hl => match us, hl with | [_, _, _], _ => rfl⟩
def er_DuplicateMessage : ErD := ⟨"DuplicateMessage", "DuplicateMessage.__init__", defArgs (clsStmt (top 6) 0), defBody (clsStmt (top 6) 0), defScope (clsStmt (top 6) 0)⟩
theorem is_DuplicateMessage {P : Program} {w : World} {K : PySem.W.Frag} {mg : Str → Option Value} {base : Heap} {C f : Addr} {file : Str} (hf : P.main.file = file) (ht : (P.main.scope.names.lookup ("super" : Str)).isSome = false) (gl : mg "DuplicateMessage" = some (.ref C)) (su : mg "super" = none) (h1 : erClB K C "ValueError" "ValueError.__new__" "ValueError.__init__" [.type "ValueError", .type "Exception", .type "BaseException", .type "object"] = true) (h2 : erFnB K C f "DuplicateMessage.__init__" file = true) (hN : findB K C ("code" :: ["message"]) = true) (e : erObs K f = er_DuplicateMessage.val) : Er P w K mg base 1 "DuplicateMessage" "DuplicateMessage" ["message"] C := by
  obtain ⟨ox, opq, ini, isb, sub⟩ := erCl_ok erb_value h1
  obtain ⟨cc, F, n1, n2, n3, n4, n5, ncl, cell, fn, code, ⟨ccl, cdd, vs, ccs, tf, fl1, fl2⟩, fi⟩ := erFn_ok h2 e rfl
  have T : ErrC P K mg C f cc F "ValueError" "ValueError.__new__" "ValueError.__init__" [.type "ValueError", .type "Exception", .type "BaseException", .type "object"] := ⟨ox, ncl, cell, fn, code, ⟨_, _, _, _, _, _, fl1, fl2, by rw [hf]; exact beq_self_eq_true _⟩, by rw [n3]; exact ⟨_, rfl, rfl⟩, su, ht, opq, ini, isb, sub, by rw [n5]; rfl, by rw [n5]; rfl, by rw [n5]; rfl, by rw [n5]; rfl⟩
  obtain ⟨od, sl, doc, pm, ctv, ho⟩ := fn
  have ty : PySem.W.typeIn K (.ref f) = some (.type "function") := by show (List.lookup f K).map (·.cls) = _; rw [ho]; rfl
  obtain ⟨Fn, Fq, Fp, Fb, Fs, Fcl, Fc⟩ := F
  dsimp only at n1 n2 n3 n4 n5 ncl
  subst n1 n2 n3 n4 n5 ncl
  have sc : NScope ["self", "message", "__class__"] ["self", "message"] ["__class__"] er_DuplicateMessage.scope := nscope_by (by decide +kernel)
  have hb : er_DuplicateMessage.body = [.Assign [.Tuple (.Attribute (.Name "self" _) "code" _ :: [.Attribute (.Name "self" _) "message" _]) _ _] (.Tuple (.Constant (.str "DuplicateMessage") _ _ :: [.Name "message" _]) _ _) _, .Expr (.Call (.Attribute (.Call (.Name "super" _) [] [] _) "__init__" _) [.Name "message" _] [] _) _] := rfl
  have FK := err_fn (CX := L2.CX P w) (w := w) (base := base) (k := 0) (N := ["self", "message", "__class__"]) (ps := ["self", "message"]) (xs := ["message"]) (code := "DuplicateMessage") T ⟨_, _, _, ho⟩ sc rfl rfl hb (.cons .nil) (.cons rfl rfl (by decide) (by decide) .nil) rfl (.cons rfl rfl (by decide) (by decide) .nil) rfl (by decide) (findB_ok (K := K) (C := C) (by assumption)) (fun _ => rfl) (fun _ => rfl) (fun _ => rfl) (fun _ => rfl) (fun _ => rfl) (fun _ => .inr ⟨_, _, rfl, rfl⟩) (fun _ => by exact sup_eval rfl rfl) (fun _ => rfl)
  exact ⟨gl, f, _, ["self", "message"], "ValueError", "ValueError.__new__", "ValueError.__init__", [.type "ValueError", .type "Exception", .type "BaseException", .type "object"], ox, fi, ty, FK, .all fun us hl => match us, hl with | [_, _], _ => rfl⟩
def er_Unsent : ErD := ⟨"Unsent", "Unsent.__init__", defArgs (clsStmt (top 7) 0), defBody (clsStmt (top 7) 0), defScope (clsStmt (top 7) 0)⟩
theorem is_Unsent {P : Program} {w : World} {K : PySem.W.Frag} {mg : Str → Option Value} {base : Heap} {C f : Addr} {file : Str} (hf : P.main.file = file) (ht : (P.main.scope.names.lookup ("super" : Str)).isSome = false) (gl : mg "Unsent" = some (.ref C)) (su : mg "super" = none) (h1 : erClB K C "ValueError" "ValueError.__new__" "ValueError.__init__" [.type "ValueError", .type "Exception", .type "BaseException", .type "object"] = true) (h2 : erFnB K C f "Unsent.__init__" file = true) (hN : findB K C ("code" :: ["message"]) = true) (e : erObs K f = er_Unsent.val) : Er P w K mg base 1 "Unsent" "Unsent" ["message"] C := by
  obtain ⟨ox, opq, ini, isb, sub⟩ := erCl_ok erb_value h1
  obtain ⟨cc, F, n1, n2, n3, n4, n5, ncl, cell, fn, code, ⟨ccl, cdd, vs, ccs, tf, fl1, fl2⟩, fi⟩ := erFn_ok h2 e rfl
  have T : ErrC P K mg C f cc F "ValueError" "ValueError.__new__" "ValueError.__init__" [.type "ValueError", .type "Exception", .type "BaseException", .type "object"] := ⟨ox, ncl, cell, fn, code, ⟨_, _, _, _, _, _, fl1, fl2, by rw [hf]; exact beq_self_eq_true _⟩, by rw [n3]; exact ⟨_, rfl, rfl⟩, su, ht, opq, ini, isb, sub, by rw [n5]; rfl, by rw [n5]; rfl, by rw [n5]; rfl, by rw [n5]; rfl⟩
  obtain ⟨od, sl, doc, pm, ctv, ho⟩ := fn
  have ty : PySem.W.typeIn K (.ref f) = some (.type "function") := by show (List.lookup f K).map (·.cls) = _; rw [ho]; rfl
  obtain ⟨Fn, Fq, Fp, Fb, Fs, Fcl, Fc⟩ := F
  dsimp only at n1 n2 n3 n4 n5 ncl
  subst n1 n2 n3 n4 n5 ncl
  have sc : NScope ["self", "message", "__class__"] ["self", "message"] ["__class__"] er_Unsent.scope := nscope_by (by decide +kernel)
  have hb : er_Unsent.body = [.Assign [.Tuple (.Attribute (.Name "self" _) "code" _ :: [.Attribute (.Name "self" _) "message" _]) _ _] (.Tuple (.Constant (.str "Unsent") _ _ :: [.Name "message" _]) _ _) _, .Expr (.Call (.Attribute (.Call (.Name "super" _) [] [] _) "__init__" _) [.Name "message" _] [] _) _] := rfl
  have FK := err_fn (CX := L2.CX P w) (w := w) (base := base) (k := 0) (N := ["self", "message", "__class__"]) (ps := ["self", "message"]) (xs := ["message"]) (code := "Unsent") T ⟨_, _, _, ho⟩ sc rfl rfl hb (.cons .nil) (.cons rfl rfl (by decide) (by decide) .nil) rfl (.cons rfl rfl (by decide) (by decide) .nil) rfl (by decide) (findB_ok (K := K) (C := C) (by assumption)) (fun _ => rfl) (fun _ => rfl) (fun _ => rfl) (fun _ => rfl) (fun _ => rfl) (fun _ => .inr ⟨_, _, rfl, rfl⟩) (fun _ => by exact sup_eval rfl rfl) (fun _ => rfl)
  exact ⟨gl, f, _, ["self", "message"], "ValueError", "ValueError.__new__", "ValueError.__init__", [.type "ValueError", .type "Exception", .type "BaseException", .type "object"], ox, fi, ty, FK, .all fun us hl => match us, hl with | [_, _], _ => rfl⟩
def er_Ring : ErD := ⟨"Ring", "Ring.__init__", defArgs (clsStmt (top 8) 0), defBody (clsStmt (top 8) 0), defScope (clsStmt (top 8) 0)⟩
theorem is_Ring {P : Program} {w : World} {K : PySem.W.Frag} {mg : Str → Option Value} {base : Heap} {C f : Addr} {file : Str} (hf : P.main.file = file) (ht : (P.main.scope.names.lookup ("super" : Str)).isSome = false) (gl : mg "Ring" = some (.ref C)) (su : mg "super" = none) (h1 : erClB K C "ValueError" "ValueError.__new__" "ValueError.__init__" [.type "ValueError", .type "Exception", .type "BaseException", .type "object"] = true) (h2 : erFnB K C f "Ring.__init__" file = true) (hN : findB K C ("code" :: ["process"]) = true) (e : erObs K f = er_Ring.val) : Er P w K mg base 1 "Ring" "Ring" ["process"] C := by
  obtain ⟨ox, opq, ini, isb, sub⟩ := erCl_ok erb_value h1
  obtain ⟨cc, F, n1, n2, n3, n4, n5, ncl, cell, fn, code, ⟨ccl, cdd, vs, ccs, tf, fl1, fl2⟩, fi⟩ := erFn_ok h2 e rfl
  have T : ErrC P K mg C f cc F "ValueError" "ValueError.__new__" "ValueError.__init__" [.type "ValueError", .type "Exception", .type "BaseException", .type "object"] := ⟨ox, ncl, cell, fn, code, ⟨_, _, _, _, _, _, fl1, fl2, by rw [hf]; exact beq_self_eq_true _⟩, by rw [n3]; exact ⟨_, rfl, rfl⟩, su, ht, opq, ini, isb, sub, by rw [n5]; rfl, by rw [n5]; rfl, by rw [n5]; rfl, by rw [n5]; rfl⟩
  obtain ⟨od, sl, doc, pm, ctv, ho⟩ := fn
  have ty : PySem.W.typeIn K (.ref f) = some (.type "function") := by show (List.lookup f K).map (·.cls) = _; rw [ho]; rfl
  obtain ⟨Fn, Fq, Fp, Fb, Fs, Fcl, Fc⟩ := F
  dsimp only at n1 n2 n3 n4 n5 ncl
  subst n1 n2 n3 n4 n5 ncl
  have sc : NScope ["self", "process", "__class__"] ["self", "process"] ["__class__"] er_Ring.scope := nscope_by (by decide +kernel)
  have hb : er_Ring.body = [.Assign [.Tuple (.Attribute (.Name "self" _) "code" _ :: [.Attribute (.Name "self" _) "process" _]) _ _] (.Tuple (.Constant (.str "Ring") _ _ :: [.Name "process" _]) _ _) _, .Expr (.Call (.Attribute (.Call (.Name "super" _) [] [] _) "__init__" _) [.Name "process" _] [] _) _] := rfl
  have FK := err_fn (CX := L2.CX P w) (w := w) (base := base) (k := 0) (N := ["self", "process", "__class__"]) (ps := ["self", "process"]) (xs := ["process"]) (code := "Ring") T ⟨_, _, _, ho⟩ sc rfl rfl hb (.cons .nil) (.cons rfl rfl (by decide) (by decide) .nil) rfl (.cons rfl rfl (by decide) (by decide) .nil) rfl (by decide) (findB_ok (K := K) (C := C) (by assumption)) (fun _ => rfl) (fun _ => rfl) (fun _ => rfl) (fun _ => rfl) (fun _ => rfl) (fun _ => .inr ⟨_, _, rfl, rfl⟩) (fun _ => by exact sup_eval rfl rfl) (fun _ => rfl)
  exact ⟨gl, f, _, ["self", "process"], "ValueError", "ValueError.__new__", "ValueError.__init__", [.type "ValueError", .type "Exception", .type "BaseException", .type "object"], ox, fi, ty, FK, .all fun us hl => match us, hl with | [_, _], _ => rfl⟩
def er_TooMany : ErD := ⟨"TooMany", "TooMany.__init__", defArgs (clsStmt (top 9) 0), defBody (clsStmt (top 9) 0), defScope (clsStmt (top 9) 0)⟩
theorem is_TooMany {P : Program} {w : World} {K : PySem.W.Frag} {mg : Str → Option Value} {base : Heap} {C f : Addr} {file : Str} (hf : P.main.file = file) (ht : (P.main.scope.names.lookup ("super" : Str)).isSome = false) (gl : mg "TooMany" = some (.ref C)) (su : mg "super" = none) (h1 : erClB K C "ValueError" "ValueError.__new__" "ValueError.__init__" [.type "ValueError", .type "Exception", .type "BaseException", .type "object"] = true) (h2 : erFnB K C f "TooMany.__init__" file = true) (hN : findB K C ("code" :: ["subject", "most"]) = true) (e : erObs K f = er_TooMany.val) : Er P w K mg base 1 "TooMany" "TooMany" ["subject", "most"] C := by
  obtain ⟨ox, opq, ini, isb, sub⟩ := erCl_ok erb_value h1
  obtain ⟨cc, F, n1, n2, n3, n4, n5, ncl, cell, fn, code, ⟨ccl, cdd, vs, ccs, tf, fl1, fl2⟩, fi⟩ := erFn_ok h2 e rfl
  have T : ErrC P K mg C f cc F "ValueError" "ValueError.__new__" "ValueError.__init__" [.type "ValueError", .type "Exception", .type "BaseException", .type "object"] := ⟨ox, ncl, cell, fn, code, ⟨_, _, _, _, _, _, fl1, fl2, by rw [hf]; exact beq_self_eq_true _⟩, by rw [n3]; exact ⟨_, rfl, rfl⟩, su, ht, opq, ini, isb, sub, by rw [n5]; rfl, by rw [n5]; rfl, by rw [n5]; rfl, by rw [n5]; rfl⟩
  obtain ⟨od, sl, doc, pm, ctv, ho⟩ := fn
  have ty : PySem.W.typeIn K (.ref f) = some (.type "function") := by show (List.lookup f K).map (·.cls) = _; rw [ho]; rfl
  obtain ⟨Fn, Fq, Fp, Fb, Fs, Fcl, Fc⟩ := F
  dsimp only at n1 n2 n3 n4 n5 ncl
  subst n1 n2 n3 n4 n5 ncl
  have sc : NScope ["self", "subject", "most", "__class__"] ["self", "subject", "most"] ["__class__"] er_TooMany.scope := nscope_by (by decide +kernel)
  have hb : er_TooMany.body = [.Assign [.Tuple (.Attribute (.Name "self" _) "code" _ :: [.Attribute (.Name "self" _) "subject" _, .Attribute (.Name "self" _) "most" _]) _ _] (.Tuple (.Constant (.str "TooMany") _ _ :: [.Name "subject" _, .Name "most" _]) _ _) _, .Expr (.Call (.Attribute (.Call (.Name "super" _) [] [] _) "__init__" _) [.Name "subject" _, .Name "most" _] [] _) _] := rfl
  have FK := err_fn (CX := L2.CX P w) (w := w) (base := base) (k := 0) (N := ["self", "subject", "most", "__class__"]) (ps := ["self", "subject", "most"]) (xs := ["subject", "most"]) (code := "TooMany") T ⟨_, _, _, ho⟩ sc rfl rfl hb (.cons (.cons .nil)) (.cons rfl rfl (by decide) (by decide) (.cons rfl rfl (by decide) (by decide) .nil)) rfl (.cons rfl rfl (by decide) (by decide) (.cons rfl rfl (by decide) (by decide) .nil)) rfl (by decide) (findB_ok (K := K) (C := C) (by assumption)) (fun _ => rfl) (fun _ => rfl) (fun _ => rfl) (fun _ => rfl) (fun _ => rfl) (fun _ => .inr ⟨_, _, rfl, rfl⟩) (fun _ => by exact sup_eval rfl rfl) (fun _ => rfl)
  exact ⟨gl, f, _, ["self", "subject", "most"], "ValueError", "ValueError.__new__", "ValueError.__init__", [.type "ValueError", .type "Exception", .type "BaseException", .type "object"], ox, fi, ty, FK, .all fun us hl => match us, hl with | [_, _, _], _ => rfl⟩
def er_InvalidPoint : ErD := ⟨"InvalidPoint", "InvalidPoint.__init__", defArgs (clsStmt (top 10) 0), defBody (clsStmt (top 10) 0), defScope (clsStmt (top 10) 0)⟩
theorem is_InvalidPoint {P : Program} {w : World} {K : PySem.W.Frag} {mg : Str → Option Value} {base : Heap} {C f : Addr} {file : Str} (hf : P.main.file = file) (ht : (P.main.scope.names.lookup ("super" : Str)).isSome = false) (gl : mg "InvalidPoint" = some (.ref C)) (su : mg "super" = none) (h1 : erClB K C "ValueError" "ValueError.__new__" "ValueError.__init__" [.type "ValueError", .type "Exception", .type "BaseException", .type "object"] = true) (h2 : erFnB K C f "InvalidPoint.__init__" file = true) (hN : findB K C ("code" :: ["value"]) = true) (e : erObs K f = er_InvalidPoint.val) : Er P w K mg base 1 "InvalidPoint" "InvalidPoint" ["value"] C := by
  obtain ⟨ox, opq, ini, isb, sub⟩ := erCl_ok erb_value h1
  obtain ⟨cc, F, n1, n2, n3, n4, n5, ncl, cell, fn, code, ⟨ccl, cdd, vs, ccs, tf, fl1, fl2⟩, fi⟩ := erFn_ok h2 e rfl
  have T : ErrC P K mg C f cc F "ValueError" "ValueError.__new__" "ValueError.__init__" [.type "ValueError", .type "Exception", .type "BaseException", .type "object"] := ⟨ox, ncl, cell, fn, code, ⟨_, _, _, _, _, _, fl1, fl2, by rw [hf]; exact beq_self_eq_true _⟩, by rw [n3]; exact ⟨_, rfl, rfl⟩, su, ht, opq, ini, isb, sub, by rw [n5]; rfl, by rw [n5]; rfl, by rw [n5]; rfl, by rw [n5]; rfl⟩
  obtain ⟨od, sl, doc, pm, ctv, ho⟩ := fn
  have ty : PySem.W.typeIn K (.ref f) = some (.type "function") := by show (List.lookup f K).map (·.cls) = _; rw [ho]; rfl
  obtain ⟨Fn, Fq, Fp, Fb, Fs, Fcl, Fc⟩ := F
  dsimp only at n1 n2 n3 n4 n5 ncl
  subst n1 n2 n3 n4 n5 ncl
  have sc : NScope ["self", "value", "__class__"] ["self", "value"] ["__class__"] er_InvalidPoint.scope := nscope_by (by decide +kernel)
  have hb : er_InvalidPoint.body = [.Assign [.Tuple (.Attribute (.Name "self" _) "code" _ :: [.Attribute (.Name "self" _) "value" _]) _ _] (.Tuple (.Constant (.str "InvalidPoint") _ _ :: [.Name "value" _]) _ _) _, .Expr (.Call (.Attribute (.Call (.Name "super" _) [] [] _) "__init__" _) [.Name "value" _] [] _) _] := rfl
  have FK := err_fn (CX := L2.CX P w) (w := w) (base := base) (k := 0) (N := ["self", "value", "__class__"]) (ps := ["self", "value"]) (xs := ["value"]) (code := "InvalidPoint") T ⟨_, _, _, ho⟩ sc rfl rfl hb (.cons .nil) (.cons rfl rfl (by decide) (by decide) .nil) rfl (.cons rfl rfl (by decide) (by decide) .nil) rfl (by decide) (findB_ok (K := K) (C := C) (by assumption)) (fun _ => rfl) (fun _ => rfl) (fun _ => rfl) (fun _ => rfl) (fun _ => rfl) (fun _ => .inr ⟨_, _, rfl, rfl⟩) (fun _ => by exact sup_eval rfl rfl) (fun _ => rfl)
  exact ⟨gl, f, _, ["self", "value"], "ValueError", "ValueError.__new__", "ValueError.__init__", [.type "ValueError", .type "Exception", .type "BaseException", .type "object"], ox, fi, ty, FK, .all fun us hl => match us, hl with | [_, _], _ => rfl⟩
def er_InvalidMoment : ErD := ⟨"InvalidMoment", "InvalidMoment.__init__", defArgs (clsStmt (top 11) 0), defBody (clsStmt (top 11) 0), defScope (clsStmt (top 11) 0)⟩
theorem is_InvalidMoment {P : Program} {w : World} {K : PySem.W.Frag} {mg : Str → Option Value} {base : Heap} {C f : Addr} {file : Str} (hf : P.main.file = file) (ht : (P.main.scope.names.lookup ("super" : Str)).isSome = false) (gl : mg "InvalidMoment" = some (.ref C)) (su : mg "super" = none) (h1 : erClB K C "ValueError" "ValueError.__new__" "ValueError.__init__" [.type "ValueError", .type "Exception", .type "BaseException", .type "object"] = true) (h2 : erFnB K C f "InvalidMoment.__init__" file = true) (hN : findB K C ("code" :: ["value"]) = true) (e : erObs K f = er_InvalidMoment.val) : Er P w K mg base 1 "InvalidMoment" "InvalidMoment" ["value"] C := by
  obtain ⟨ox, opq, ini, isb, sub⟩ := erCl_ok erb_value h1
  obtain ⟨cc, F, n1, n2, n3, n4, n5, ncl, cell, fn, code, ⟨ccl, cdd, vs, ccs, tf, fl1, fl2⟩, fi⟩ := erFn_ok h2 e rfl
  have T : ErrC P K mg C f cc F "ValueError" "ValueError.__new__" "ValueError.__init__" [.type "ValueError", .type "Exception", .type "BaseException", .type "object"] := ⟨ox, ncl, cell, fn, code, ⟨_, _, _, _, _, _, fl1, fl2, by rw [hf]; exact beq_self_eq_true _⟩, by rw [n3]; exact ⟨_, rfl, rfl⟩, su, ht, opq, ini, isb, sub, by rw [n5]; rfl, by rw [n5]; rfl, by rw [n5]; rfl, by rw [n5]; rfl⟩
  obtain ⟨od, sl, doc, pm, ctv, ho⟩ := fn
  have ty : PySem.W.typeIn K (.ref f) = some (.type "function") := by show (List.lookup f K).map (·.cls) = _; rw [ho]; rfl
  obtain ⟨Fn, Fq, Fp, Fb, Fs, Fcl, Fc⟩ := F
  dsimp only at n1 n2 n3 n4 n5 ncl
  subst n1 n2 n3 n4 n5 ncl
  have sc : NScope ["self", "value", "__class__"] ["self", "value"] ["__class__"] er_InvalidMoment.scope := nscope_by (by decide +kernel)
  have hb : er_InvalidMoment.body = [.Assign [.Tuple (.Attribute (.Name "self" _) "code" _ :: [.Attribute (.Name "self" _) "value" _]) _ _] (.Tuple (.Constant (.str "InvalidMoment") _ _ :: [.Name "value" _]) _ _) _, .Expr (.Call (.Attribute (.Call (.Name "super" _) [] [] _) "__init__" _) [.Name "value" _] [] _) _] := rfl
  have FK := err_fn (CX := L2.CX P w) (w := w) (base := base) (k := 0) (N := ["self", "value", "__class__"]) (ps := ["self", "value"]) (xs := ["value"]) (code := "InvalidMoment") T ⟨_, _, _, ho⟩ sc rfl rfl hb (.cons .nil) (.cons rfl rfl (by decide) (by decide) .nil) rfl (.cons rfl rfl (by decide) (by decide) .nil) rfl (by decide) (findB_ok (K := K) (C := C) (by assumption)) (fun _ => rfl) (fun _ => rfl) (fun _ => rfl) (fun _ => rfl) (fun _ => rfl) (fun _ => .inr ⟨_, _, rfl, rfl⟩) (fun _ => by exact sup_eval rfl rfl) (fun _ => rfl)
  exact ⟨gl, f, _, ["self", "value"], "ValueError", "ValueError.__new__", "ValueError.__init__", [.type "ValueError", .type "Exception", .type "BaseException", .type "object"], ox, fi, ty, FK, .all fun us hl => match us, hl with | [_, _], _ => rfl⟩
def er_InvalidClause : ErD := ⟨"InvalidClause", "InvalidClause.__init__", defArgs (clsStmt (top 12) 0), defBody (clsStmt (top 12) 0), defScope (clsStmt (top 12) 0)⟩
theorem is_InvalidClause {P : Program} {w : World} {K : PySem.W.Frag} {mg : Str → Option Value} {base : Heap} {C f : Addr} {file : Str} (hf : P.main.file = file) (ht : (P.main.scope.names.lookup ("super" : Str)).isSome = false) (gl : mg "InvalidClause" = some (.ref C)) (su : mg "super" = none) (h1 : erClB K C "ValueError" "ValueError.__new__" "ValueError.__init__" [.type "ValueError", .type "Exception", .type "BaseException", .type "object"] = true) (h2 : erFnB K C f "InvalidClause.__init__" file = true) (hN : findB K C ("code" :: ["at"]) = true) (e : erObs K f = er_InvalidClause.val) : Er P w K mg base 1 "InvalidClause" "InvalidClause" ["at"] C := by
  obtain ⟨ox, opq, ini, isb, sub⟩ := erCl_ok erb_value h1
  obtain ⟨cc, F, n1, n2, n3, n4, n5, ncl, cell, fn, code, ⟨ccl, cdd, vs, ccs, tf, fl1, fl2⟩, fi⟩ := erFn_ok h2 e rfl
  have T : ErrC P K mg C f cc F "ValueError" "ValueError.__new__" "ValueError.__init__" [.type "ValueError", .type "Exception", .type "BaseException", .type "object"] := ⟨ox, ncl, cell, fn, code, ⟨_, _, _, _, _, _, fl1, fl2, by rw [hf]; exact beq_self_eq_true _⟩, by rw [n3]; exact ⟨_, rfl, rfl⟩, su, ht, opq, ini, isb, sub, by rw [n5]; rfl, by rw [n5]; rfl, by rw [n5]; rfl, by rw [n5]; rfl⟩
  obtain ⟨od, sl, doc, pm, ctv, ho⟩ := fn
  have ty : PySem.W.typeIn K (.ref f) = some (.type "function") := by show (List.lookup f K).map (·.cls) = _; rw [ho]; rfl
  obtain ⟨Fn, Fq, Fp, Fb, Fs, Fcl, Fc⟩ := F
  dsimp only at n1 n2 n3 n4 n5 ncl
  subst n1 n2 n3 n4 n5 ncl
  have sc : NScope ["self", "at", "__class__"] ["self", "at"] ["__class__"] er_InvalidClause.scope := nscope_by (by decide +kernel)
  have hb : er_InvalidClause.body = [.Assign [.Tuple (.Attribute (.Name "self" _) "code" _ :: [.Attribute (.Name "self" _) "at" _]) _ _] (.Tuple (.Constant (.str "InvalidClause") _ _ :: [.Name "at" _]) _ _) _, .Expr (.Call (.Attribute (.Call (.Name "super" _) [] [] _) "__init__" _) [.Name "at" _] [] _) _] := rfl
  have FK := err_fn (CX := L2.CX P w) (w := w) (base := base) (k := 0) (N := ["self", "at", "__class__"]) (ps := ["self", "at"]) (xs := ["at"]) (code := "InvalidClause") T ⟨_, _, _, ho⟩ sc rfl rfl hb (.cons .nil) (.cons rfl rfl (by decide) (by decide) .nil) rfl (.cons rfl rfl (by decide) (by decide) .nil) rfl (by decide) (findB_ok (K := K) (C := C) (by assumption)) (fun _ => rfl) (fun _ => rfl) (fun _ => rfl) (fun _ => rfl) (fun _ => rfl) (fun _ => .inr ⟨_, _, rfl, rfl⟩) (fun _ => by exact sup_eval rfl rfl) (fun _ => rfl)
  exact ⟨gl, f, _, ["self", "at"], "ValueError", "ValueError.__new__", "ValueError.__init__", [.type "ValueError", .type "Exception", .type "BaseException", .type "object"], ox, fi, ty, FK, .all fun us hl => match us, hl with | [_, _], _ => rfl⟩
def er_Parted : ErD := ⟨"Parted", "Parted.__init__", defArgs (clsStmt (top 13) 0), defBody (clsStmt (top 13) 0), defScope (clsStmt (top 13) 0)⟩
theorem is_Parted {P : Program} {w : World} {K : PySem.W.Frag} {mg : Str → Option Value} {base : Heap} {C f : Addr} {file : Str} (hf : P.main.file = file) (ht : (P.main.scope.names.lookup ("super" : Str)).isSome = false) (gl : mg "Parted" = some (.ref C)) (su : mg "super" = none) (h1 : erClB K C "ValueError" "ValueError.__new__" "ValueError.__init__" [.type "ValueError", .type "Exception", .type "BaseException", .type "object"] = true) (h2 : erFnB K C f "Parted.__init__" file = true) (hN : findB K C ("code" :: ["at", "one", "other"]) = true) (e : erObs K f = er_Parted.val) : Er P w K mg base 1 "Parted" "Parted" ["at", "one", "other"] C := by
  obtain ⟨ox, opq, ini, isb, sub⟩ := erCl_ok erb_value h1
  obtain ⟨cc, F, n1, n2, n3, n4, n5, ncl, cell, fn, code, ⟨ccl, cdd, vs, ccs, tf, fl1, fl2⟩, fi⟩ := erFn_ok h2 e rfl
  have T : ErrC P K mg C f cc F "ValueError" "ValueError.__new__" "ValueError.__init__" [.type "ValueError", .type "Exception", .type "BaseException", .type "object"] := ⟨ox, ncl, cell, fn, code, ⟨_, _, _, _, _, _, fl1, fl2, by rw [hf]; exact beq_self_eq_true _⟩, by rw [n3]; exact ⟨_, rfl, rfl⟩, su, ht, opq, ini, isb, sub, by rw [n5]; rfl, by rw [n5]; rfl, by rw [n5]; rfl, by rw [n5]; rfl⟩
  obtain ⟨od, sl, doc, pm, ctv, ho⟩ := fn
  have ty : PySem.W.typeIn K (.ref f) = some (.type "function") := by show (List.lookup f K).map (·.cls) = _; rw [ho]; rfl
  obtain ⟨Fn, Fq, Fp, Fb, Fs, Fcl, Fc⟩ := F
  dsimp only at n1 n2 n3 n4 n5 ncl
  subst n1 n2 n3 n4 n5 ncl
  have sc : NScope ["self", "at", "one", "other", "__class__"] ["self", "at", "one", "other"] ["__class__"] er_Parted.scope := nscope_by (by decide +kernel)
  have hb : er_Parted.body = [.Assign [.Tuple (.Attribute (.Name "self" _) "code" _ :: [.Attribute (.Name "self" _) "at" _, .Attribute (.Name "self" _) "one" _, .Attribute (.Name "self" _) "other" _]) _ _] (.Tuple (.Constant (.str "Parted") _ _ :: [.Name "at" _, .Name "one" _, .Name "other" _]) _ _) _, .Expr (.Call (.Attribute (.Call (.Name "super" _) [] [] _) "__init__" _) [.Name "at" _, .Name "one" _, .Name "other" _] [] _) _] := rfl
  have FK := err_fn (CX := L2.CX P w) (w := w) (base := base) (k := 0) (N := ["self", "at", "one", "other", "__class__"]) (ps := ["self", "at", "one", "other"]) (xs := ["at", "one", "other"]) (code := "Parted") T ⟨_, _, _, ho⟩ sc rfl rfl hb (.cons (.cons (.cons .nil))) (.cons rfl rfl (by decide) (by decide) (.cons rfl rfl (by decide) (by decide) (.cons rfl rfl (by decide) (by decide) .nil))) rfl (.cons rfl rfl (by decide) (by decide) (.cons rfl rfl (by decide) (by decide) (.cons rfl rfl (by decide) (by decide) .nil))) rfl (by decide) (findB_ok (K := K) (C := C) (by assumption)) (fun _ => rfl) (fun _ => rfl) (fun _ => rfl) (fun _ => rfl) (fun _ => rfl) (fun _ => .inr ⟨_, _, rfl, rfl⟩) (fun _ => by exact sup_eval rfl rfl) (fun _ => rfl)
  exact ⟨gl, f, _, ["self", "at", "one", "other"], "ValueError", "ValueError.__new__", "ValueError.__init__", [.type "ValueError", .type "Exception", .type "BaseException", .type "object"], ox, fi, ty, FK, .all fun us hl => match us, hl with | [_, _, _, _], _ => rfl⟩
def er_UnlikeLogs : ErD := ⟨"UnlikeLogs", "UnlikeLogs.__init__", defArgs (clsStmt (top 14) 0), defBody (clsStmt (top 14) 0), defScope (clsStmt (top 14) 0)⟩
theorem is_UnlikeLogs {P : Program} {w : World} {K : PySem.W.Frag} {mg : Str → Option Value} {base : Heap} {C f : Addr} {file : Str} (hf : P.main.file = file) (ht : (P.main.scope.names.lookup ("super" : Str)).isSome = false) (gl : mg "UnlikeLogs" = some (.ref C)) (su : mg "super" = none) (h1 : erClB K C "ValueError" "ValueError.__new__" "ValueError.__init__" [.type "ValueError", .type "Exception", .type "BaseException", .type "object"] = true) (h2 : erFnB K C f "UnlikeLogs.__init__" file = true) (hN : findB K C ("code" :: []) = true) (e : erObs K f = er_UnlikeLogs.val) : Er P w K mg base 1 "UnlikeLogs" "UnlikeLogs" [] C := by
  obtain ⟨ox, opq, ini, isb, sub⟩ := erCl_ok erb_value h1
  obtain ⟨cc, F, n1, n2, n3, n4, n5, ncl, cell, fn, code, ⟨ccl, cdd, vs, ccs, tf, fl1, fl2⟩, fi⟩ := erFn_ok h2 e rfl
  have T : ErrC P K mg C f cc F "ValueError" "ValueError.__new__" "ValueError.__init__" [.type "ValueError", .type "Exception", .type "BaseException", .type "object"] := ⟨ox, ncl, cell, fn, code, ⟨_, _, _, _, _, _, fl1, fl2, by rw [hf]; exact beq_self_eq_true _⟩, by rw [n3]; exact ⟨_, rfl, rfl⟩, su, ht, opq, ini, isb, sub, by rw [n5]; rfl, by rw [n5]; rfl, by rw [n5]; rfl, by rw [n5]; rfl⟩
  obtain ⟨od, sl, doc, pm, ctv, ho⟩ := fn
  have ty : PySem.W.typeIn K (.ref f) = some (.type "function") := by show (List.lookup f K).map (·.cls) = _; rw [ho]; rfl
  obtain ⟨Fn, Fq, Fp, Fb, Fs, Fcl, Fc⟩ := F
  dsimp only at n1 n2 n3 n4 n5 ncl
  subst n1 n2 n3 n4 n5 ncl
  have sc : NScope ["self", "__class__"] ["self"] ["__class__"] er_UnlikeLogs.scope := nscope_by (by decide +kernel)
  have hb : er_UnlikeLogs.body = [.Assign [.Attribute (.Name "self" _) "code" _] (.Constant (.str "UnlikeLogs") _ _) _, .Expr (.Call (.Attribute (.Call (.Name "super" _) [] [] _) "__init__" _) [] [] _) _] := rfl
  have FK := err_fn0 (CX := L2.CX P w) (w := w) (base := base) (k := 0) (N := ["self", "__class__"]) (ps := ["self"]) (code := "UnlikeLogs") T ⟨_, _, _, ho⟩ sc rfl rfl hb (findB_ok (K := K) (C := C) (by assumption) "code" List.mem_cons_self) (fun _ => rfl) (fun _ => by exact sup_eval rfl rfl) (fun _ => rfl)
  exact ⟨gl, f, _, ["self"], "ValueError", "ValueError.__new__", "ValueError.__init__", [.type "ValueError", .type "Exception", .type "BaseException", .type "object"], ox, fi, ty, FK, .all fun us hl => match us, hl with | [_], _ => rfl⟩
def er_EmptyLot : ErD := ⟨"EmptyLot", "EmptyLot.__init__", defArgs (clsStmt (top 15) 0), defBody (clsStmt (top 15) 0), defScope (clsStmt (top 15) 0)⟩
theorem is_EmptyLot {P : Program} {w : World} {K : PySem.W.Frag} {mg : Str → Option Value} {base : Heap} {C f : Addr} {file : Str} (hf : P.main.file = file) (ht : (P.main.scope.names.lookup ("super" : Str)).isSome = false) (gl : mg "EmptyLot" = some (.ref C)) (su : mg "super" = none) (h1 : erClB K C "ValueError" "ValueError.__new__" "ValueError.__init__" [.type "ValueError", .type "Exception", .type "BaseException", .type "object"] = true) (h2 : erFnB K C f "EmptyLot.__init__" file = true) (hN : findB K C ("code" :: []) = true) (e : erObs K f = er_EmptyLot.val) : Er P w K mg base 1 "EmptyLot" "EmptyLot" [] C := by
  obtain ⟨ox, opq, ini, isb, sub⟩ := erCl_ok erb_value h1
  obtain ⟨cc, F, n1, n2, n3, n4, n5, ncl, cell, fn, code, ⟨ccl, cdd, vs, ccs, tf, fl1, fl2⟩, fi⟩ := erFn_ok h2 e rfl
  have T : ErrC P K mg C f cc F "ValueError" "ValueError.__new__" "ValueError.__init__" [.type "ValueError", .type "Exception", .type "BaseException", .type "object"] := ⟨ox, ncl, cell, fn, code, ⟨_, _, _, _, _, _, fl1, fl2, by rw [hf]; exact beq_self_eq_true _⟩, by rw [n3]; exact ⟨_, rfl, rfl⟩, su, ht, opq, ini, isb, sub, by rw [n5]; rfl, by rw [n5]; rfl, by rw [n5]; rfl, by rw [n5]; rfl⟩
  obtain ⟨od, sl, doc, pm, ctv, ho⟩ := fn
  have ty : PySem.W.typeIn K (.ref f) = some (.type "function") := by show (List.lookup f K).map (·.cls) = _; rw [ho]; rfl
  obtain ⟨Fn, Fq, Fp, Fb, Fs, Fcl, Fc⟩ := F
  dsimp only at n1 n2 n3 n4 n5 ncl
  subst n1 n2 n3 n4 n5 ncl
  have sc : NScope ["self", "__class__"] ["self"] ["__class__"] er_EmptyLot.scope := nscope_by (by decide +kernel)
  have hb : er_EmptyLot.body = [.Assign [.Attribute (.Name "self" _) "code" _] (.Constant (.str "EmptyLot") _ _) _, .Expr (.Call (.Attribute (.Call (.Name "super" _) [] [] _) "__init__" _) [] [] _) _] := rfl
  have FK := err_fn0 (CX := L2.CX P w) (w := w) (base := base) (k := 0) (N := ["self", "__class__"]) (ps := ["self"]) (code := "EmptyLot") T ⟨_, _, _, ho⟩ sc rfl rfl hb (findB_ok (K := K) (C := C) (by assumption) "code" List.mem_cons_self) (fun _ => rfl) (fun _ => by exact sup_eval rfl rfl) (fun _ => rfl)
  exact ⟨gl, f, _, ["self"], "ValueError", "ValueError.__new__", "ValueError.__init__", [.type "ValueError", .type "Exception", .type "BaseException", .type "object"], ox, fi, ty, FK, .all fun us hl => match us, hl with | [_], _ => rfl⟩
def er_InvalidNumber : ErD := ⟨"InvalidNumber", "InvalidNumber.__init__", defArgs (clsStmt (top 16) 0), defBody (clsStmt (top 16) 0), defScope (clsStmt (top 16) 0)⟩
theorem is_InvalidNumber {P : Program} {w : World} {K : PySem.W.Frag} {mg : Str → Option Value} {base : Heap} {C f : Addr} {file : Str} (hf : P.main.file = file) (ht : (P.main.scope.names.lookup ("super" : Str)).isSome = false) (gl : mg "InvalidNumber" = some (.ref C)) (su : mg "super" = none) (h1 : erClB K C "ValueError" "ValueError.__new__" "ValueError.__init__" [.type "ValueError", .type "Exception", .type "BaseException", .type "object"] = true) (h2 : erFnB K C f "InvalidNumber.__init__" file = true) (hN : findB K C ("code" :: ["value"]) = true) (e : erObs K f = er_InvalidNumber.val) : Er P w K mg base 1 "InvalidNumber" "InvalidNumber" ["value"] C := by
  obtain ⟨ox, opq, ini, isb, sub⟩ := erCl_ok erb_value h1
  obtain ⟨cc, F, n1, n2, n3, n4, n5, ncl, cell, fn, code, ⟨ccl, cdd, vs, ccs, tf, fl1, fl2⟩, fi⟩ := erFn_ok h2 e rfl
  have T : ErrC P K mg C f cc F "ValueError" "ValueError.__new__" "ValueError.__init__" [.type "ValueError", .type "Exception", .type "BaseException", .type "object"] := ⟨ox, ncl, cell, fn, code, ⟨_, _, _, _, _, _, fl1, fl2, by rw [hf]; exact beq_self_eq_true _⟩, by rw [n3]; exact ⟨_, rfl, rfl⟩, su, ht, opq, ini, isb, sub, by rw [n5]; rfl, by rw [n5]; rfl, by rw [n5]; rfl, by rw [n5]; rfl⟩
  obtain ⟨od, sl, doc, pm, ctv, ho⟩ := fn
  have ty : PySem.W.typeIn K (.ref f) = some (.type "function") := by show (List.lookup f K).map (·.cls) = _; rw [ho]; rfl
  obtain ⟨Fn, Fq, Fp, Fb, Fs, Fcl, Fc⟩ := F
  dsimp only at n1 n2 n3 n4 n5 ncl
  subst n1 n2 n3 n4 n5 ncl
  have sc : NScope ["self", "value", "__class__"] ["self", "value"] ["__class__"] er_InvalidNumber.scope := nscope_by (by decide +kernel)
  have hb : er_InvalidNumber.body = [.Assign [.Tuple (.Attribute (.Name "self" _) "code" _ :: [.Attribute (.Name "self" _) "value" _]) _ _] (.Tuple (.Constant (.str "InvalidNumber") _ _ :: [.Name "value" _]) _ _) _, .Expr (.Call (.Attribute (.Call (.Name "super" _) [] [] _) "__init__" _) [.Name "value" _] [] _) _] := rfl
  have FK := err_fn (CX := L2.CX P w) (w := w) (base := base) (k := 0) (N := ["self", "value", "__class__"]) (ps := ["self", "value"]) (xs := ["value"]) (code := "InvalidNumber") T ⟨_, _, _, ho⟩ sc rfl rfl hb (.cons .nil) (.cons rfl rfl (by decide) (by decide) .nil) rfl (.cons rfl rfl (by decide) (by decide) .nil) rfl (by decide) (findB_ok (K := K) (C := C) (by assumption)) (fun _ => rfl) (fun _ => rfl) (fun _ => rfl) (fun _ => rfl) (fun _ => rfl) (fun _ => .inr ⟨_, _, rfl, rfl⟩) (fun _ => by exact sup_eval rfl rfl) (fun _ => rfl)
  exact ⟨gl, f, _, ["self", "value"], "ValueError", "ValueError.__new__", "ValueError.__init__", [.type "ValueError", .type "Exception", .type "BaseException", .type "object"], ox, fi, ty, FK, .all fun us hl => match us, hl with | [_, _], _ => rfl⟩
def er_InvalidWeights : ErD := ⟨"InvalidWeights", "InvalidWeights.__init__", defArgs (clsStmt (top 17) 0), defBody (clsStmt (top 17) 0), defScope (clsStmt (top 17) 0)⟩
theorem is_InvalidWeights {P : Program} {w : World} {K : PySem.W.Frag} {mg : Str → Option Value} {base : Heap} {C f : Addr} {file : Str} (hf : P.main.file = file) (ht : (P.main.scope.names.lookup ("super" : Str)).isSome = false) (gl : mg "InvalidWeights" = some (.ref C)) (su : mg "super" = none) (h1 : erClB K C "ValueError" "ValueError.__new__" "ValueError.__init__" [.type "ValueError", .type "Exception", .type "BaseException", .type "object"] = true) (h2 : erFnB K C f "InvalidWeights.__init__" file = true) (hN : findB K C ("code" :: []) = true) (e : erObs K f = er_InvalidWeights.val) : Er P w K mg base 1 "InvalidWeights" "InvalidWeights" [] C := by
  obtain ⟨ox, opq, ini, isb, sub⟩ := erCl_ok erb_value h1
  obtain ⟨cc, F, n1, n2, n3, n4, n5, ncl, cell, fn, code, ⟨ccl, cdd, vs, ccs, tf, fl1, fl2⟩, fi⟩ := erFn_ok h2 e rfl
  have T : ErrC P K mg C f cc F "ValueError" "ValueError.__new__" "ValueError.__init__" [.type "ValueError", .type "Exception", .type "BaseException", .type "object"] := ⟨ox, ncl, cell, fn, code, ⟨_, _, _, _, _, _, fl1, fl2, by rw [hf]; exact beq_self_eq_true _⟩, by rw [n3]; exact ⟨_, rfl, rfl⟩, su, ht, opq, ini, isb, sub, by rw [n5]; rfl, by rw [n5]; rfl, by rw [n5]; rfl, by rw [n5]; rfl⟩
  obtain ⟨od, sl, doc, pm, ctv, ho⟩ := fn
  have ty : PySem.W.typeIn K (.ref f) = some (.type "function") := by show (List.lookup f K).map (·.cls) = _; rw [ho]; rfl
  obtain ⟨Fn, Fq, Fp, Fb, Fs, Fcl, Fc⟩ := F
  dsimp only at n1 n2 n3 n4 n5 ncl
  subst n1 n2 n3 n4 n5 ncl
  have sc : NScope ["self", "__class__"] ["self"] ["__class__"] er_InvalidWeights.scope := nscope_by (by decide +kernel)
  have hb : er_InvalidWeights.body = [.Assign [.Attribute (.Name "self" _) "code" _] (.Constant (.str "InvalidWeights") _ _) _, .Expr (.Call (.Attribute (.Call (.Name "super" _) [] [] _) "__init__" _) [] [] _) _] := rfl
  have FK := err_fn0 (CX := L2.CX P w) (w := w) (base := base) (k := 0) (N := ["self", "__class__"]) (ps := ["self"]) (code := "InvalidWeights") T ⟨_, _, _, ho⟩ sc rfl rfl hb (findB_ok (K := K) (C := C) (by assumption) "code" List.mem_cons_self) (fun _ => rfl) (fun _ => by exact sup_eval rfl rfl) (fun _ => rfl)
  exact ⟨gl, f, _, ["self"], "ValueError", "ValueError.__new__", "ValueError.__init__", [.type "ValueError", .type "Exception", .type "BaseException", .type "object"], ox, fi, ty, FK, .all fun us hl => match us, hl with | [_], _ => rfl⟩
def er_Uneven : ErD := ⟨"Uneven", "Uneven.__init__", defArgs (clsStmt (top 18) 0), defBody (clsStmt (top 18) 0), defScope (clsStmt (top 18) 0)⟩
theorem is_Uneven {P : Program} {w : World} {K : PySem.W.Frag} {mg : Str → Option Value} {base : Heap} {C f : Addr} {file : Str} (hf : P.main.file = file) (ht : (P.main.scope.names.lookup ("super" : Str)).isSome = false) (gl : mg "Uneven" = some (.ref C)) (su : mg "super" = none) (h1 : erClB K C "ValueError" "ValueError.__new__" "ValueError.__init__" [.type "ValueError", .type "Exception", .type "BaseException", .type "object"] = true) (h2 : erFnB K C f "Uneven.__init__" file = true) (hN : findB K C ("code" :: ["block"]) = true) (e : erObs K f = er_Uneven.val) : Er P w K mg base 1 "Uneven" "Uneven" ["block"] C := by
  obtain ⟨ox, opq, ini, isb, sub⟩ := erCl_ok erb_value h1
  obtain ⟨cc, F, n1, n2, n3, n4, n5, ncl, cell, fn, code, ⟨ccl, cdd, vs, ccs, tf, fl1, fl2⟩, fi⟩ := erFn_ok h2 e rfl
  have T : ErrC P K mg C f cc F "ValueError" "ValueError.__new__" "ValueError.__init__" [.type "ValueError", .type "Exception", .type "BaseException", .type "object"] := ⟨ox, ncl, cell, fn, code, ⟨_, _, _, _, _, _, fl1, fl2, by rw [hf]; exact beq_self_eq_true _⟩, by rw [n3]; exact ⟨_, rfl, rfl⟩, su, ht, opq, ini, isb, sub, by rw [n5]; rfl, by rw [n5]; rfl, by rw [n5]; rfl, by rw [n5]; rfl⟩
  obtain ⟨od, sl, doc, pm, ctv, ho⟩ := fn
  have ty : PySem.W.typeIn K (.ref f) = some (.type "function") := by show (List.lookup f K).map (·.cls) = _; rw [ho]; rfl
  obtain ⟨Fn, Fq, Fp, Fb, Fs, Fcl, Fc⟩ := F
  dsimp only at n1 n2 n3 n4 n5 ncl
  subst n1 n2 n3 n4 n5 ncl
  have sc : NScope ["self", "block", "__class__"] ["self", "block"] ["__class__"] er_Uneven.scope := nscope_by (by decide +kernel)
  have hb : er_Uneven.body = [.Assign [.Tuple (.Attribute (.Name "self" _) "code" _ :: [.Attribute (.Name "self" _) "block" _]) _ _] (.Tuple (.Constant (.str "Uneven") _ _ :: [.Name "block" _]) _ _) _, .Expr (.Call (.Attribute (.Call (.Name "super" _) [] [] _) "__init__" _) [.Name "block" _] [] _) _] := rfl
  have FK := err_fn (CX := L2.CX P w) (w := w) (base := base) (k := 0) (N := ["self", "block", "__class__"]) (ps := ["self", "block"]) (xs := ["block"]) (code := "Uneven") T ⟨_, _, _, ho⟩ sc rfl rfl hb (.cons .nil) (.cons rfl rfl (by decide) (by decide) .nil) rfl (.cons rfl rfl (by decide) (by decide) .nil) rfl (by decide) (findB_ok (K := K) (C := C) (by assumption)) (fun _ => rfl) (fun _ => rfl) (fun _ => rfl) (fun _ => rfl) (fun _ => rfl) (fun _ => .inr ⟨_, _, rfl, rfl⟩) (fun _ => by exact sup_eval rfl rfl) (fun _ => rfl)
  exact ⟨gl, f, _, ["self", "block"], "ValueError", "ValueError.__new__", "ValueError.__init__", [.type "ValueError", .type "Exception", .type "BaseException", .type "object"], ox, fi, ty, FK, .all fun us hl => match us, hl with | [_, _], _ => rfl⟩
def er_InvalidTests : ErD := ⟨"InvalidTests", "InvalidTests.__init__", defArgs (clsStmt (top 19) 0), defBody (clsStmt (top 19) 0), defScope (clsStmt (top 19) 0)⟩
theorem is_InvalidTests {P : Program} {w : World} {K : PySem.W.Frag} {mg : Str → Option Value} {base : Heap} {C f : Addr} {file : Str} (hf : P.main.file = file) (ht : (P.main.scope.names.lookup ("super" : Str)).isSome = false) (gl : mg "InvalidTests" = some (.ref C)) (su : mg "super" = none) (h1 : erClB K C "ValueError" "ValueError.__new__" "ValueError.__init__" [.type "ValueError", .type "Exception", .type "BaseException", .type "object"] = true) (h2 : erFnB K C f "InvalidTests.__init__" file = true) (hN : findB K C ("code" :: ["at"]) = true) (e : erObs K f = er_InvalidTests.val) : Er P w K mg base 1 "InvalidTests" "InvalidTests" ["at"] C := by
  obtain ⟨ox, opq, ini, isb, sub⟩ := erCl_ok erb_value h1
  obtain ⟨cc, F, n1, n2, n3, n4, n5, ncl, cell, fn, code, ⟨ccl, cdd, vs, ccs, tf, fl1, fl2⟩, fi⟩ := erFn_ok h2 e rfl
  have T : ErrC P K mg C f cc F "ValueError" "ValueError.__new__" "ValueError.__init__" [.type "ValueError", .type "Exception", .type "BaseException", .type "object"] := ⟨ox, ncl, cell, fn, code, ⟨_, _, _, _, _, _, fl1, fl2, by rw [hf]; exact beq_self_eq_true _⟩, by rw [n3]; exact ⟨_, rfl, rfl⟩, su, ht, opq, ini, isb, sub, by rw [n5]; rfl, by rw [n5]; rfl, by rw [n5]; rfl, by rw [n5]; rfl⟩
  obtain ⟨od, sl, doc, pm, ctv, ho⟩ := fn
  have ty : PySem.W.typeIn K (.ref f) = some (.type "function") := by show (List.lookup f K).map (·.cls) = _; rw [ho]; rfl
  obtain ⟨Fn, Fq, Fp, Fb, Fs, Fcl, Fc⟩ := F
  dsimp only at n1 n2 n3 n4 n5 ncl
  subst n1 n2 n3 n4 n5 ncl
  have sc : NScope ["self", "at", "__class__"] ["self", "at"] ["__class__"] er_InvalidTests.scope := nscope_by (by decide +kernel)
  have hb : er_InvalidTests.body = [.Assign [.Tuple (.Attribute (.Name "self" _) "code" _ :: [.Attribute (.Name "self" _) "at" _]) _ _] (.Tuple (.Constant (.str "InvalidTests") _ _ :: [.Name "at" _]) _ _) _, .Expr (.Call (.Attribute (.Call (.Name "super" _) [] [] _) "__init__" _) [.Name "at" _] [] _) _] := rfl
  have FK := err_fn (CX := L2.CX P w) (w := w) (base := base) (k := 0) (N := ["self", "at", "__class__"]) (ps := ["self", "at"]) (xs := ["at"]) (code := "InvalidTests") T ⟨_, _, _, ho⟩ sc rfl rfl hb (.cons .nil) (.cons rfl rfl (by decide) (by decide) .nil) rfl (.cons rfl rfl (by decide) (by decide) .nil) rfl (by decide) (findB_ok (K := K) (C := C) (by assumption)) (fun _ => rfl) (fun _ => rfl) (fun _ => rfl) (fun _ => rfl) (fun _ => rfl) (fun _ => .inr ⟨_, _, rfl, rfl⟩) (fun _ => by exact sup_eval rfl rfl) (fun _ => rfl)
  exact ⟨gl, f, _, ["self", "at"], "ValueError", "ValueError.__new__", "ValueError.__init__", [.type "ValueError", .type "Exception", .type "BaseException", .type "object"], ox, fi, ty, FK, .all fun us hl => match us, hl with | [_, _], _ => rfl⟩
def er_InvalidText : ErD := ⟨"InvalidText", "InvalidText.__init__", defArgs (clsStmt (top 20) 0), defBody (clsStmt (top 20) 0), defScope (clsStmt (top 20) 0)⟩
theorem is_InvalidText {P : Program} {w : World} {K : PySem.W.Frag} {mg : Str → Option Value} {base : Heap} {C f : Addr} {file : Str} (hf : P.main.file = file) (ht : (P.main.scope.names.lookup ("super" : Str)).isSome = false) (gl : mg "InvalidText" = some (.ref C)) (su : mg "super" = none) (h1 : erClB K C "ValueError" "ValueError.__new__" "ValueError.__init__" [.type "ValueError", .type "Exception", .type "BaseException", .type "object"] = true) (h2 : erFnB K C f "InvalidText.__init__" file = true) (hN : findB K C ("code" :: ["at"]) = true) (e : erObs K f = er_InvalidText.val) : Er P w K mg base 1 "InvalidText" "InvalidText" ["at"] C := by
  obtain ⟨ox, opq, ini, isb, sub⟩ := erCl_ok erb_value h1
  obtain ⟨cc, F, n1, n2, n3, n4, n5, ncl, cell, fn, code, ⟨ccl, cdd, vs, ccs, tf, fl1, fl2⟩, fi⟩ := erFn_ok h2 e rfl
  have T : ErrC P K mg C f cc F "ValueError" "ValueError.__new__" "ValueError.__init__" [.type "ValueError", .type "Exception", .type "BaseException", .type "object"] := ⟨ox, ncl, cell, fn, code, ⟨_, _, _, _, _, _, fl1, fl2, by rw [hf]; exact beq_self_eq_true _⟩, by rw [n3]; exact ⟨_, rfl, rfl⟩, su, ht, opq, ini, isb, sub, by rw [n5]; rfl, by rw [n5]; rfl, by rw [n5]; rfl, by rw [n5]; rfl⟩
  obtain ⟨od, sl, doc, pm, ctv, ho⟩ := fn
  have ty : PySem.W.typeIn K (.ref f) = some (.type "function") := by show (List.lookup f K).map (·.cls) = _; rw [ho]; rfl
  obtain ⟨Fn, Fq, Fp, Fb, Fs, Fcl, Fc⟩ := F
  dsimp only at n1 n2 n3 n4 n5 ncl
  subst n1 n2 n3 n4 n5 ncl
  have sc : NScope ["self", "at", "__class__"] ["self", "at"] ["__class__"] er_InvalidText.scope := nscope_by (by decide +kernel)
  have hb : er_InvalidText.body = [.Assign [.Tuple (.Attribute (.Name "self" _) "code" _ :: [.Attribute (.Name "self" _) "at" _]) _ _] (.Tuple (.Constant (.str "InvalidText") _ _ :: [.Name "at" _]) _ _) _, .Expr (.Call (.Attribute (.Call (.Name "super" _) [] [] _) "__init__" _) [.Name "at" _] [] _) _] := rfl
  have FK := err_fn (CX := L2.CX P w) (w := w) (base := base) (k := 0) (N := ["self", "at", "__class__"]) (ps := ["self", "at"]) (xs := ["at"]) (code := "InvalidText") T ⟨_, _, _, ho⟩ sc rfl rfl hb (.cons .nil) (.cons rfl rfl (by decide) (by decide) .nil) rfl (.cons rfl rfl (by decide) (by decide) .nil) rfl (by decide) (findB_ok (K := K) (C := C) (by assumption)) (fun _ => rfl) (fun _ => rfl) (fun _ => rfl) (fun _ => rfl) (fun _ => rfl) (fun _ => .inr ⟨_, _, rfl, rfl⟩) (fun _ => by exact sup_eval rfl rfl) (fun _ => rfl)
  exact ⟨gl, f, _, ["self", "at"], "ValueError", "ValueError.__new__", "ValueError.__init__", [.type "ValueError", .type "Exception", .type "BaseException", .type "object"], ox, fi, ty, FK, .all fun us hl => match us, hl with | [_, _], _ => rfl⟩
def er_InvalidCommand : ErD := ⟨"InvalidCommand", "InvalidCommand.__init__", defArgs (clsStmt (top 21) 0), defBody (clsStmt (top 21) 0), defScope (clsStmt (top 21) 0)⟩
theorem is_InvalidCommand {P : Program} {w : World} {K : PySem.W.Frag} {mg : Str → Option Value} {base : Heap} {C f : Addr} {file : Str} (hf : P.main.file = file) (ht : (P.main.scope.names.lookup ("super" : Str)).isSome = false) (gl : mg "InvalidCommand" = some (.ref C)) (su : mg "super" = none) (h1 : erClB K C "ValueError" "ValueError.__new__" "ValueError.__init__" [.type "ValueError", .type "Exception", .type "BaseException", .type "object"] = true) (h2 : erFnB K C f "InvalidCommand.__init__" file = true) (hN : findB K C ("code" :: ["at"]) = true) (e : erObs K f = er_InvalidCommand.val) : Er P w K mg base 1 "InvalidCommand" "InvalidCommand" ["at"] C := by
  obtain ⟨ox, opq, ini, isb, sub⟩ := erCl_ok erb_value h1
  obtain ⟨cc, F, n1, n2, n3, n4, n5, ncl, cell, fn, code, ⟨ccl, cdd, vs, ccs, tf, fl1, fl2⟩, fi⟩ := erFn_ok h2 e rfl
  have T : ErrC P K mg C f cc F "ValueError" "ValueError.__new__" "ValueError.__init__" [.type "ValueError", .type "Exception", .type "BaseException", .type "object"] := ⟨ox, ncl, cell, fn, code, ⟨_, _, _, _, _, _, fl1, fl2, by rw [hf]; exact beq_self_eq_true _⟩, by rw [n3]; exact ⟨_, rfl, rfl⟩, su, ht, opq, ini, isb, sub, by rw [n5]; rfl, by rw [n5]; rfl, by rw [n5]; rfl, by rw [n5]; rfl⟩
  obtain ⟨od, sl, doc, pm, ctv, ho⟩ := fn
  have ty : PySem.W.typeIn K (.ref f) = some (.type "function") := by show (List.lookup f K).map (·.cls) = _; rw [ho]; rfl
  obtain ⟨Fn, Fq, Fp, Fb, Fs, Fcl, Fc⟩ := F
  dsimp only at n1 n2 n3 n4 n5 ncl
  subst n1 n2 n3 n4 n5 ncl
  have sc : NScope ["self", "at", "__class__"] ["self", "at"] ["__class__"] er_InvalidCommand.scope := nscope_by (by decide +kernel)
  have hb : er_InvalidCommand.body = [.Assign [.Tuple (.Attribute (.Name "self" _) "code" _ :: [.Attribute (.Name "self" _) "at" _]) _ _] (.Tuple (.Constant (.str "InvalidCommand") _ _ :: [.Name "at" _]) _ _) _, .Expr (.Call (.Attribute (.Call (.Name "super" _) [] [] _) "__init__" _) [.Name "at" _] [] _) _] := rfl
  have FK := err_fn (CX := L2.CX P w) (w := w) (base := base) (k := 0) (N := ["self", "at", "__class__"]) (ps := ["self", "at"]) (xs := ["at"]) (code := "InvalidCommand") T ⟨_, _, _, ho⟩ sc rfl rfl hb (.cons .nil) (.cons rfl rfl (by decide) (by decide) .nil) rfl (.cons rfl rfl (by decide) (by decide) .nil) rfl (by decide) (findB_ok (K := K) (C := C) (by assumption)) (fun _ => rfl) (fun _ => rfl) (fun _ => rfl) (fun _ => rfl) (fun _ => rfl) (fun _ => .inr ⟨_, _, rfl, rfl⟩) (fun _ => by exact sup_eval rfl rfl) (fun _ => rfl)
  exact ⟨gl, f, _, ["self", "at"], "ValueError", "ValueError.__new__", "ValueError.__init__", [.type "ValueError", .type "Exception", .type "BaseException", .type "object"], ox, fi, ty, FK, .all fun us hl => match us, hl with | [_, _], _ => rfl⟩
def er_Full : ErD := ⟨"Full", "Full.__init__", defArgs (clsStmt (top 22) 0), defBody (clsStmt (top 22) 0), defScope (clsStmt (top 22) 0)⟩
theorem is_Full {P : Program} {w : World} {K : PySem.W.Frag} {mg : Str → Option Value} {base : Heap} {C f : Addr} {file : Str} (hf : P.main.file = file) (ht : (P.main.scope.names.lookup ("super" : Str)).isSome = false) (gl : mg "Full" = some (.ref C)) (su : mg "super" = none) (h1 : erClB K C "ValueError" "ValueError.__new__" "ValueError.__init__" [.type "ValueError", .type "Exception", .type "BaseException", .type "object"] = true) (h2 : erFnB K C f "Full.__init__" file = true) (hN : findB K C ("code" :: ["limit"]) = true) (e : erObs K f = er_Full.val) : Er P w K mg base 1 "Full" "Full" ["limit"] C := by
  obtain ⟨ox, opq, ini, isb, sub⟩ := erCl_ok erb_value h1
  obtain ⟨cc, F, n1, n2, n3, n4, n5, ncl, cell, fn, code, ⟨ccl, cdd, vs, ccs, tf, fl1, fl2⟩, fi⟩ := erFn_ok h2 e rfl
  have T : ErrC P K mg C f cc F "ValueError" "ValueError.__new__" "ValueError.__init__" [.type "ValueError", .type "Exception", .type "BaseException", .type "object"] := ⟨ox, ncl, cell, fn, code, ⟨_, _, _, _, _, _, fl1, fl2, by rw [hf]; exact beq_self_eq_true _⟩, by rw [n3]; exact ⟨_, rfl, rfl⟩, su, ht, opq, ini, isb, sub, by rw [n5]; rfl, by rw [n5]; rfl, by rw [n5]; rfl, by rw [n5]; rfl⟩
  obtain ⟨od, sl, doc, pm, ctv, ho⟩ := fn
  have ty : PySem.W.typeIn K (.ref f) = some (.type "function") := by show (List.lookup f K).map (·.cls) = _; rw [ho]; rfl
  obtain ⟨Fn, Fq, Fp, Fb, Fs, Fcl, Fc⟩ := F
  dsimp only at n1 n2 n3 n4 n5 ncl
  subst n1 n2 n3 n4 n5 ncl
  have sc : NScope ["self", "limit", "__class__"] ["self", "limit"] ["__class__"] er_Full.scope := nscope_by (by decide +kernel)
  have hb : er_Full.body = [.Assign [.Tuple (.Attribute (.Name "self" _) "code" _ :: [.Attribute (.Name "self" _) "limit" _]) _ _] (.Tuple (.Constant (.str "Full") _ _ :: [.Name "limit" _]) _ _) _, .Expr (.Call (.Attribute (.Call (.Name "super" _) [] [] _) "__init__" _) [.Name "limit" _] [] _) _] := rfl
  have FK := err_fn (CX := L2.CX P w) (w := w) (base := base) (k := 0) (N := ["self", "limit", "__class__"]) (ps := ["self", "limit"]) (xs := ["limit"]) (code := "Full") T ⟨_, _, _, ho⟩ sc rfl rfl hb (.cons .nil) (.cons rfl rfl (by decide) (by decide) .nil) rfl (.cons rfl rfl (by decide) (by decide) .nil) rfl (by decide) (findB_ok (K := K) (C := C) (by assumption)) (fun _ => rfl) (fun _ => rfl) (fun _ => rfl) (fun _ => rfl) (fun _ => rfl) (fun _ => .inr ⟨_, _, rfl, rfl⟩) (fun _ => by exact sup_eval rfl rfl) (fun _ => rfl)
  exact ⟨gl, f, _, ["self", "limit"], "ValueError", "ValueError.__new__", "ValueError.__init__", [.type "ValueError", .type "Exception", .type "BaseException", .type "object"], ox, fi, ty, FK, .all fun us hl => match us, hl with | [_, _], _ => rfl⟩
def er_InvalidLimit : ErD := ⟨"InvalidLimit", "InvalidLimit.__init__", defArgs (clsStmt (top 23) 0), defBody (clsStmt (top 23) 0), defScope (clsStmt (top 23) 0)⟩
theorem is_InvalidLimit {P : Program} {w : World} {K : PySem.W.Frag} {mg : Str → Option Value} {base : Heap} {C f : Addr} {file : Str} (hf : P.main.file = file) (ht : (P.main.scope.names.lookup ("super" : Str)).isSome = false) (gl : mg "InvalidLimit" = some (.ref C)) (su : mg "super" = none) (h1 : erClB K C "ValueError" "ValueError.__new__" "ValueError.__init__" [.type "ValueError", .type "Exception", .type "BaseException", .type "object"] = true) (h2 : erFnB K C f "InvalidLimit.__init__" file = true) (hN : findB K C ("code" :: ["value"]) = true) (e : erObs K f = er_InvalidLimit.val) : Er P w K mg base 1 "InvalidLimit" "InvalidLimit" ["value"] C := by
  obtain ⟨ox, opq, ini, isb, sub⟩ := erCl_ok erb_value h1
  obtain ⟨cc, F, n1, n2, n3, n4, n5, ncl, cell, fn, code, ⟨ccl, cdd, vs, ccs, tf, fl1, fl2⟩, fi⟩ := erFn_ok h2 e rfl
  have T : ErrC P K mg C f cc F "ValueError" "ValueError.__new__" "ValueError.__init__" [.type "ValueError", .type "Exception", .type "BaseException", .type "object"] := ⟨ox, ncl, cell, fn, code, ⟨_, _, _, _, _, _, fl1, fl2, by rw [hf]; exact beq_self_eq_true _⟩, by rw [n3]; exact ⟨_, rfl, rfl⟩, su, ht, opq, ini, isb, sub, by rw [n5]; rfl, by rw [n5]; rfl, by rw [n5]; rfl, by rw [n5]; rfl⟩
  obtain ⟨od, sl, doc, pm, ctv, ho⟩ := fn
  have ty : PySem.W.typeIn K (.ref f) = some (.type "function") := by show (List.lookup f K).map (·.cls) = _; rw [ho]; rfl
  obtain ⟨Fn, Fq, Fp, Fb, Fs, Fcl, Fc⟩ := F
  dsimp only at n1 n2 n3 n4 n5 ncl
  subst n1 n2 n3 n4 n5 ncl
  have sc : NScope ["self", "value", "__class__"] ["self", "value"] ["__class__"] er_InvalidLimit.scope := nscope_by (by decide +kernel)
  have hb : er_InvalidLimit.body = [.Assign [.Tuple (.Attribute (.Name "self" _) "code" _ :: [.Attribute (.Name "self" _) "value" _]) _ _] (.Tuple (.Constant (.str "InvalidLimit") _ _ :: [.Name "value" _]) _ _) _, .Expr (.Call (.Attribute (.Call (.Name "super" _) [] [] _) "__init__" _) [.Name "value" _] [] _) _] := rfl
  have FK := err_fn (CX := L2.CX P w) (w := w) (base := base) (k := 0) (N := ["self", "value", "__class__"]) (ps := ["self", "value"]) (xs := ["value"]) (code := "InvalidLimit") T ⟨_, _, _, ho⟩ sc rfl rfl hb (.cons .nil) (.cons rfl rfl (by decide) (by decide) .nil) rfl (.cons rfl rfl (by decide) (by decide) .nil) rfl (by decide) (findB_ok (K := K) (C := C) (by assumption)) (fun _ => rfl) (fun _ => rfl) (fun _ => rfl) (fun _ => rfl) (fun _ => rfl) (fun _ => .inr ⟨_, _, rfl, rfl⟩) (fun _ => by exact sup_eval rfl rfl) (fun _ => rfl)
  exact ⟨gl, f, _, ["self", "value"], "ValueError", "ValueError.__new__", "ValueError.__init__", [.type "ValueError", .type "Exception", .type "BaseException", .type "object"], ox, fi, ty, FK, .all fun us hl => match us, hl with | [_, _], _ => rfl⟩
def er_InvalidPage : ErD := ⟨"InvalidPage", "InvalidPage.__init__", defArgs (clsStmt (top 24) 0), defBody (clsStmt (top 24) 0), defScope (clsStmt (top 24) 0)⟩
theorem is_InvalidPage {P : Program} {w : World} {K : PySem.W.Frag} {mg : Str → Option Value} {base : Heap} {C f : Addr} {file : Str} (hf : P.main.file = file) (ht : (P.main.scope.names.lookup ("super" : Str)).isSome = false) (gl : mg "InvalidPage" = some (.ref C)) (su : mg "super" = none) (h1 : erClB K C "ValueError" "ValueError.__new__" "ValueError.__init__" [.type "ValueError", .type "Exception", .type "BaseException", .type "object"] = true) (h2 : erFnB K C f "InvalidPage.__init__" file = true) (hN : findB K C ("code" :: ["line"]) = true) (e : erObs K f = er_InvalidPage.val) : Er P w K mg base 1 "InvalidPage" "InvalidPage" ["line"] C := by
  obtain ⟨ox, opq, ini, isb, sub⟩ := erCl_ok erb_value h1
  obtain ⟨cc, F, n1, n2, n3, n4, n5, ncl, cell, fn, code, ⟨ccl, cdd, vs, ccs, tf, fl1, fl2⟩, fi⟩ := erFn_ok h2 e rfl
  have T : ErrC P K mg C f cc F "ValueError" "ValueError.__new__" "ValueError.__init__" [.type "ValueError", .type "Exception", .type "BaseException", .type "object"] := ⟨ox, ncl, cell, fn, code, ⟨_, _, _, _, _, _, fl1, fl2, by rw [hf]; exact beq_self_eq_true _⟩, by rw [n3]; exact ⟨_, rfl, rfl⟩, su, ht, opq, ini, isb, sub, by rw [n5]; rfl, by rw [n5]; rfl, by rw [n5]; rfl, by rw [n5]; rfl⟩
  obtain ⟨od, sl, doc, pm, ctv, ho⟩ := fn
  have ty : PySem.W.typeIn K (.ref f) = some (.type "function") := by show (List.lookup f K).map (·.cls) = _; rw [ho]; rfl
  obtain ⟨Fn, Fq, Fp, Fb, Fs, Fcl, Fc⟩ := F
  dsimp only at n1 n2 n3 n4 n5 ncl
  subst n1 n2 n3 n4 n5 ncl
  have sc : NScope ["self", "line", "__class__"] ["self", "line"] ["__class__"] er_InvalidPage.scope := nscope_by (by decide +kernel)
  have hb : er_InvalidPage.body = [.Assign [.Tuple (.Attribute (.Name "self" _) "code" _ :: [.Attribute (.Name "self" _) "line" _]) _ _] (.Tuple (.Constant (.str "InvalidPage") _ _ :: [.Name "line" _]) _ _) _, .Expr (.Call (.Attribute (.Call (.Name "super" _) [] [] _) "__init__" _) [.Name "line" _] [] _) _] := rfl
  have FK := err_fn (CX := L2.CX P w) (w := w) (base := base) (k := 0) (N := ["self", "line", "__class__"]) (ps := ["self", "line"]) (xs := ["line"]) (code := "InvalidPage") T ⟨_, _, _, ho⟩ sc rfl rfl hb (.cons .nil) (.cons rfl rfl (by decide) (by decide) .nil) rfl (.cons rfl rfl (by decide) (by decide) .nil) rfl (by decide) (findB_ok (K := K) (C := C) (by assumption)) (fun _ => rfl) (fun _ => rfl) (fun _ => rfl) (fun _ => rfl) (fun _ => rfl) (fun _ => .inr ⟨_, _, rfl, rfl⟩) (fun _ => by exact sup_eval rfl rfl) (fun _ => rfl)
  exact ⟨gl, f, _, ["self", "line"], "ValueError", "ValueError.__new__", "ValueError.__init__", [.type "ValueError", .type "Exception", .type "BaseException", .type "object"], ox, fi, ty, FK, .all fun us hl => match us, hl with | [_, _], _ => rfl⟩
def er_UnknownProcess : ErD := ⟨"UnknownProcess", "UnknownProcess.__init__", defArgs (clsStmt (top 26) 0), defBody (clsStmt (top 26) 0), defScope (clsStmt (top 26) 0)⟩
theorem is_UnknownProcess {P : Program} {w : World} {K : PySem.W.Frag} {mg : Str → Option Value} {base : Heap} {C f : Addr} {file : Str} (hf : P.main.file = file) (ht : (P.main.scope.names.lookup ("super" : Str)).isSome = false) (gl : mg "UnknownProcess" = some (.ref C)) (su : mg "super" = none) (h1 : erClB K C "LookupError" "LookupError.__new__" "LookupError.__init__" [.type "LookupError", .type "Exception", .type "BaseException", .type "object"] = true) (h2 : erFnB K C f "UnknownProcess.__init__" file = true) (hN : findB K C ("code" :: ["name"]) = true) (e : erObs K f = er_UnknownProcess.val) : Er P w K mg base 1 "UnknownProcess" "UnknownProcess" ["name"] C := by
  obtain ⟨ox, opq, ini, isb, sub⟩ := erCl_ok erb_lookup h1
  obtain ⟨cc, F, n1, n2, n3, n4, n5, ncl, cell, fn, code, ⟨ccl, cdd, vs, ccs, tf, fl1, fl2⟩, fi⟩ := erFn_ok h2 e rfl
  have T : ErrC P K mg C f cc F "LookupError" "LookupError.__new__" "LookupError.__init__" [.type "LookupError", .type "Exception", .type "BaseException", .type "object"] := ⟨ox, ncl, cell, fn, code, ⟨_, _, _, _, _, _, fl1, fl2, by rw [hf]; exact beq_self_eq_true _⟩, by rw [n3]; exact ⟨_, rfl, rfl⟩, su, ht, opq, ini, isb, sub, by rw [n5]; rfl, by rw [n5]; rfl, by rw [n5]; rfl, by rw [n5]; rfl⟩
  obtain ⟨od, sl, doc, pm, ctv, ho⟩ := fn
  have ty : PySem.W.typeIn K (.ref f) = some (.type "function") := by show (List.lookup f K).map (·.cls) = _; rw [ho]; rfl
  obtain ⟨Fn, Fq, Fp, Fb, Fs, Fcl, Fc⟩ := F
  dsimp only at n1 n2 n3 n4 n5 ncl
  subst n1 n2 n3 n4 n5 ncl
  have sc : NScope ["self", "name", "__class__"] ["self", "name"] ["__class__"] er_UnknownProcess.scope := nscope_by (by decide +kernel)
  have hb : er_UnknownProcess.body = [.Assign [.Tuple (.Attribute (.Name "self" _) "code" _ :: [.Attribute (.Name "self" _) "name" _]) _ _] (.Tuple (.Constant (.str "UnknownProcess") _ _ :: [.Name "name" _]) _ _) _, .Expr (.Call (.Attribute (.Call (.Name "super" _) [] [] _) "__init__" _) [.Name "name" _] [] _) _] := rfl
  have FK := err_fn (CX := L2.CX P w) (w := w) (base := base) (k := 0) (N := ["self", "name", "__class__"]) (ps := ["self", "name"]) (xs := ["name"]) (code := "UnknownProcess") T ⟨_, _, _, ho⟩ sc rfl rfl hb (.cons .nil) (.cons rfl rfl (by decide) (by decide) .nil) rfl (.cons rfl rfl (by decide) (by decide) .nil) rfl (by decide) (findB_ok (K := K) (C := C) (by assumption)) (fun _ => rfl) (fun _ => rfl) (fun _ => rfl) (fun _ => rfl) (fun _ => rfl) (fun _ => .inr ⟨_, _, rfl, rfl⟩) (fun _ => by exact sup_eval rfl rfl) (fun _ => rfl)
  exact ⟨gl, f, _, ["self", "name"], "LookupError", "LookupError.__new__", "LookupError.__init__", [.type "LookupError", .type "Exception", .type "BaseException", .type "object"], ox, fi, ty, FK, .all fun us hl => match us, hl with | [_, _], _ => rfl⟩
def er_UnknownStep : ErD := ⟨"UnknownStep", "UnknownStep.__init__", defArgs (clsStmt (top 27) 0), defBody (clsStmt (top 27) 0), defScope (clsStmt (top 27) 0)⟩
theorem is_UnknownStep {P : Program} {w : World} {K : PySem.W.Frag} {mg : Str → Option Value} {base : Heap} {C f : Addr} {file : Str} (hf : P.main.file = file) (ht : (P.main.scope.names.lookup ("super" : Str)).isSome = false) (gl : mg "UnknownStep" = some (.ref C)) (su : mg "super" = none) (h1 : erClB K C "LookupError" "LookupError.__new__" "LookupError.__init__" [.type "LookupError", .type "Exception", .type "BaseException", .type "object"] = true) (h2 : erFnB K C f "UnknownStep.__init__" file = true) (hN : findB K C ("code" :: ["step"]) = true) (e : erObs K f = er_UnknownStep.val) : Er P w K mg base 1 "UnknownStep" "UnknownStep" ["step"] C := by
  obtain ⟨ox, opq, ini, isb, sub⟩ := erCl_ok erb_lookup h1
  obtain ⟨cc, F, n1, n2, n3, n4, n5, ncl, cell, fn, code, ⟨ccl, cdd, vs, ccs, tf, fl1, fl2⟩, fi⟩ := erFn_ok h2 e rfl
  have T : ErrC P K mg C f cc F "LookupError" "LookupError.__new__" "LookupError.__init__" [.type "LookupError", .type "Exception", .type "BaseException", .type "object"] := ⟨ox, ncl, cell, fn, code, ⟨_, _, _, _, _, _, fl1, fl2, by rw [hf]; exact beq_self_eq_true _⟩, by rw [n3]; exact ⟨_, rfl, rfl⟩, su, ht, opq, ini, isb, sub, by rw [n5]; rfl, by rw [n5]; rfl, by rw [n5]; rfl, by rw [n5]; rfl⟩
  obtain ⟨od, sl, doc, pm, ctv, ho⟩ := fn
  have ty : PySem.W.typeIn K (.ref f) = some (.type "function") := by show (List.lookup f K).map (·.cls) = _; rw [ho]; rfl
  obtain ⟨Fn, Fq, Fp, Fb, Fs, Fcl, Fc⟩ := F
  dsimp only at n1 n2 n3 n4 n5 ncl
  subst n1 n2 n3 n4 n5 ncl
  have sc : NScope ["self", "step", "__class__"] ["self", "step"] ["__class__"] er_UnknownStep.scope := nscope_by (by decide +kernel)
  have hb : er_UnknownStep.body = [.Assign [.Tuple (.Attribute (.Name "self" _) "code" _ :: [.Attribute (.Name "self" _) "step" _]) _ _] (.Tuple (.Constant (.str "UnknownStep") _ _ :: [.Name "step" _]) _ _) _, .Expr (.Call (.Attribute (.Call (.Name "super" _) [] [] _) "__init__" _) [.Name "step" _] [] _) _] := rfl
  have FK := err_fn (CX := L2.CX P w) (w := w) (base := base) (k := 0) (N := ["self", "step", "__class__"]) (ps := ["self", "step"]) (xs := ["step"]) (code := "UnknownStep") T ⟨_, _, _, ho⟩ sc rfl rfl hb (.cons .nil) (.cons rfl rfl (by decide) (by decide) .nil) rfl (.cons rfl rfl (by decide) (by decide) .nil) rfl (by decide) (findB_ok (K := K) (C := C) (by assumption)) (fun _ => rfl) (fun _ => rfl) (fun _ => rfl) (fun _ => rfl) (fun _ => rfl) (fun _ => .inr ⟨_, _, rfl, rfl⟩) (fun _ => by exact sup_eval rfl rfl) (fun _ => rfl)
  exact ⟨gl, f, _, ["self", "step"], "LookupError", "LookupError.__new__", "LookupError.__init__", [.type "LookupError", .type "Exception", .type "BaseException", .type "object"], ox, fi, ty, FK, .all fun us hl => match us, hl with | [_, _], _ => rfl⟩
def er_UnknownName : ErD := ⟨"UnknownName", "UnknownName.__init__", defArgs (clsStmt (top 28) 0), defBody (clsStmt (top 28) 0), defScope (clsStmt (top 28) 0)⟩
theorem is_UnknownName {P : Program} {w : World} {K : PySem.W.Frag} {mg : Str → Option Value} {base : Heap} {C f : Addr} {file : Str} (hf : P.main.file = file) (ht : (P.main.scope.names.lookup ("super" : Str)).isSome = false) (gl : mg "UnknownName" = some (.ref C)) (su : mg "super" = none) (h1 : erClB K C "LookupError" "LookupError.__new__" "LookupError.__init__" [.type "LookupError", .type "Exception", .type "BaseException", .type "object"] = true) (h2 : erFnB K C f "UnknownName.__init__" file = true) (hN : findB K C ("code" :: ["name"]) = true) (e : erObs K f = er_UnknownName.val) : Er P w K mg base 1 "UnknownName" "UnknownName" ["name"] C := by
  obtain ⟨ox, opq, ini, isb, sub⟩ := erCl_ok erb_lookup h1
  obtain ⟨cc, F, n1, n2, n3, n4, n5, ncl, cell, fn, code, ⟨ccl, cdd, vs, ccs, tf, fl1, fl2⟩, fi⟩ := erFn_ok h2 e rfl
  have T : ErrC P K mg C f cc F "LookupError" "LookupError.__new__" "LookupError.__init__" [.type "LookupError", .type "Exception", .type "BaseException", .type "object"] := ⟨ox, ncl, cell, fn, code, ⟨_, _, _, _, _, _, fl1, fl2, by rw [hf]; exact beq_self_eq_true _⟩, by rw [n3]; exact ⟨_, rfl, rfl⟩, su, ht, opq, ini, isb, sub, by rw [n5]; rfl, by rw [n5]; rfl, by rw [n5]; rfl, by rw [n5]; rfl⟩
  obtain ⟨od, sl, doc, pm, ctv, ho⟩ := fn
  have ty : PySem.W.typeIn K (.ref f) = some (.type "function") := by show (List.lookup f K).map (·.cls) = _; rw [ho]; rfl
  obtain ⟨Fn, Fq, Fp, Fb, Fs, Fcl, Fc⟩ := F
  dsimp only at n1 n2 n3 n4 n5 ncl
  subst n1 n2 n3 n4 n5 ncl
  have sc : NScope ["self", "name", "__class__"] ["self", "name"] ["__class__"] er_UnknownName.scope := nscope_by (by decide +kernel)
  have hb : er_UnknownName.body = [.Assign [.Tuple (.Attribute (.Name "self" _) "code" _ :: [.Attribute (.Name "self" _) "name" _]) _ _] (.Tuple (.Constant (.str "UnknownName") _ _ :: [.Name "name" _]) _ _) _, .Expr (.Call (.Attribute (.Call (.Name "super" _) [] [] _) "__init__" _) [.Name "name" _] [] _) _] := rfl
  have FK := err_fn (CX := L2.CX P w) (w := w) (base := base) (k := 0) (N := ["self", "name", "__class__"]) (ps := ["self", "name"]) (xs := ["name"]) (code := "UnknownName") T ⟨_, _, _, ho⟩ sc rfl rfl hb (.cons .nil) (.cons rfl rfl (by decide) (by decide) .nil) rfl (.cons rfl rfl (by decide) (by decide) .nil) rfl (by decide) (findB_ok (K := K) (C := C) (by assumption)) (fun _ => rfl) (fun _ => rfl) (fun _ => rfl) (fun _ => rfl) (fun _ => rfl) (fun _ => .inr ⟨_, _, rfl, rfl⟩) (fun _ => by exact sup_eval rfl rfl) (fun _ => rfl)
  exact ⟨gl, f, _, ["self", "name"], "LookupError", "LookupError.__new__", "LookupError.__init__", [.type "LookupError", .type "Exception", .type "BaseException", .type "object"], ox, fi, ty, FK, .all fun us hl => match us, hl with | [_, _], _ => rfl⟩
def er_NothingLeft : ErD := ⟨"NothingLeft", "NothingLeft.__init__", defArgs (clsStmt (top 29) 0), defBody (clsStmt (top 29) 0), defScope (clsStmt (top 29) 0)⟩
theorem is_NothingLeft {P : Program} {w : World} {K : PySem.W.Frag} {mg : Str → Option Value} {base : Heap} {C f : Addr} {file : Str} (hf : P.main.file = file) (ht : (P.main.scope.names.lookup ("super" : Str)).isSome = false) (gl : mg "NothingLeft" = some (.ref C)) (su : mg "super" = none) (h1 : erClB K C "IndexError" "IndexError.__new__" "IndexError.__init__" [.type "IndexError", .type "LookupError", .type "Exception", .type "BaseException", .type "object"] = true) (h2 : erFnB K C f "NothingLeft.__init__" file = true) (hN : findB K C ("code" :: []) = true) (e : erObs K f = er_NothingLeft.val) : Er P w K mg base 1 "NothingLeft" "NothingLeft" [] C := by
  obtain ⟨ox, opq, ini, isb, sub⟩ := erCl_ok erb_index h1
  obtain ⟨cc, F, n1, n2, n3, n4, n5, ncl, cell, fn, code, ⟨ccl, cdd, vs, ccs, tf, fl1, fl2⟩, fi⟩ := erFn_ok h2 e rfl
  have T : ErrC P K mg C f cc F "IndexError" "IndexError.__new__" "IndexError.__init__" [.type "IndexError", .type "LookupError", .type "Exception", .type "BaseException", .type "object"] := ⟨ox, ncl, cell, fn, code, ⟨_, _, _, _, _, _, fl1, fl2, by rw [hf]; exact beq_self_eq_true _⟩, by rw [n3]; exact ⟨_, rfl, rfl⟩, su, ht, opq, ini, isb, sub, by rw [n5]; rfl, by rw [n5]; rfl, by rw [n5]; rfl, by rw [n5]; rfl⟩
  obtain ⟨od, sl, doc, pm, ctv, ho⟩ := fn
  have ty : PySem.W.typeIn K (.ref f) = some (.type "function") := by show (List.lookup f K).map (·.cls) = _; rw [ho]; rfl
  obtain ⟨Fn, Fq, Fp, Fb, Fs, Fcl, Fc⟩ := F
  dsimp only at n1 n2 n3 n4 n5 ncl
  subst n1 n2 n3 n4 n5 ncl
  have sc : NScope ["self", "__class__"] ["self"] ["__class__"] er_NothingLeft.scope := nscope_by (by decide +kernel)
  have hb : er_NothingLeft.body = [.Assign [.Attribute (.Name "self" _) "code" _] (.Constant (.str "NothingLeft") _ _) _, .Expr (.Call (.Attribute (.Call (.Name "super" _) [] [] _) "__init__" _) [] [] _) _] := rfl
  have FK := err_fn0 (CX := L2.CX P w) (w := w) (base := base) (k := 0) (N := ["self", "__class__"]) (ps := ["self"]) (code := "NothingLeft") T ⟨_, _, _, ho⟩ sc rfl rfl hb (findB_ok (K := K) (C := C) (by assumption) "code" List.mem_cons_self) (fun _ => rfl) (fun _ => by exact sup_eval rfl rfl) (fun _ => rfl)
  exact ⟨gl, f, _, ["self"], "IndexError", "IndexError.__new__", "IndexError.__init__", [.type "IndexError", .type "LookupError", .type "Exception", .type "BaseException", .type "object"], ox, fi, ty, FK, .all fun us hl => match us, hl with | [_], _ => rfl⟩
theorem ik_DuplicateMessage_message {P : Program} {w : World} {K : PySem.W.Frag} {mg : Str → Option Value} {base : Heap} {C f : Addr} {file : Str} (hf : P.main.file = file) (ht : (P.main.scope.names.lookup ("super" : Str)).isSome = false) (gl : mg "DuplicateMessage" = some (.ref C)) (su : mg "super" = none) (h1 : erClB K C "ValueError" "ValueError.__new__" "ValueError.__init__" [.type "ValueError", .type "Exception", .type "BaseException", .type "object"] = true) (h2 : erFnB K C f "DuplicateMessage.__init__" file = true) (hN : findB K C ("code" :: ["message"]) = true) (e : erObs K f = er_DuplicateMessage.val) : ErK P w K mg base 1 "DuplicateMessage" "DuplicateMessage" ["message"] C ["message"] [0] := by
  obtain ⟨ox, opq, ini, isb, sub⟩ := erCl_ok erb_value h1
  obtain ⟨cc, F, n1, n2, n3, n4, n5, ncl, cell, fn, code, ⟨ccl, cdd, vs, ccs, tf, fl1, fl2⟩, fi⟩ := erFn_ok h2 e rfl
  have T : ErrC P K mg C f cc F "ValueError" "ValueError.__new__" "ValueError.__init__" [.type "ValueError", .type "Exception", .type "BaseException", .type "object"] := ⟨ox, ncl, cell, fn, code, ⟨_, _, _, _, _, _, fl1, fl2, by rw [hf]; exact beq_self_eq_true _⟩, by rw [n3]; exact ⟨_, rfl, rfl⟩, su, ht, opq, ini, isb, sub, by rw [n5]; rfl, by rw [n5]; rfl, by rw [n5]; rfl, by rw [n5]; rfl⟩
  obtain ⟨od, sl, doc, pm, ctv, ho⟩ := fn
  have ty : PySem.W.typeIn K (.ref f) = some (.type "function") := by show (List.lookup f K).map (·.cls) = _; rw [ho]; rfl
  obtain ⟨Fn, Fq, Fp, Fb, Fs, Fcl, Fc⟩ := F
  dsimp only at n1 n2 n3 n4 n5 ncl
  subst n1 n2 n3 n4 n5 ncl
  have sc : NScope ["self", "message", "__class__"] ["self", "message"] ["__class__"] er_DuplicateMessage.scope := nscope_by (by decide +kernel)
  have hb : er_DuplicateMessage.body = [.Assign [.Tuple (.Attribute (.Name "self" _) "code" _ :: [.Attribute (.Name "self" _) "message" _]) _ _] (.Tuple (.Constant (.str "DuplicateMessage") _ _ :: [.Name "message" _]) _ _) _, .Expr (.Call (.Attribute (.Call (.Name "super" _) [] [] _) "__init__" _) [.Name "message" _] [] _) _] := rfl
  have FK := err_fn (CX := L2.CX P w) (w := w) (base := base) (k := 0) (N := ["self", "message", "__class__"]) (ps := ["self", "message"]) (xs := ["message"]) (code := "DuplicateMessage") T ⟨_, _, _, ho⟩ sc rfl rfl hb (.cons .nil) (.cons rfl rfl (by decide) (by decide) .nil) rfl (.cons rfl rfl (by decide) (by decide) .nil) rfl (by decide) (findB_ok (K := K) (C := C) (by assumption)) (fun _ => rfl) (fun _ => rfl) (fun _ => rfl) (fun _ => rfl) (fun _ => rfl) (fun _ => .inr ⟨_, _, rfl, rfl⟩) (fun _ => by exact sup_eval rfl rfl) (fun _ => rfl)
  exact ⟨gl, f, _, ["self", "message"], "ValueError", "ValueError.__new__", "ValueError.__init__", [.type "ValueError", .type "Exception", .type "BaseException", .type "object"], ox, fi, ty, FK, ⟨fun s u ws _ hl => .of_eq (match ws, hl with | [_], _ => rfl)⟩⟩
theorem ik_DuplicateName_name {P : Program} {w : World} {K : PySem.W.Frag} {mg : Str → Option Value} {base : Heap} {C f : Addr} {file : Str} (hf : P.main.file = file) (ht : (P.main.scope.names.lookup ("super" : Str)).isSome = false) (gl : mg "DuplicateName" = some (.ref C)) (su : mg "super" = none) (h1 : erClB K C "ValueError" "ValueError.__new__" "ValueError.__init__" [.type "ValueError", .type "Exception", .type "BaseException", .type "object"] = true) (h2 : erFnB K C f "DuplicateName.__init__" file = true) (hN : findB K C ("code" :: ["name"]) = true) (e : erObs K f = er_DuplicateName.val) : ErK P w K mg base 1 "DuplicateName" "DuplicateName" ["name"] C ["name"] [0] := by
  obtain ⟨ox, opq, ini, isb, sub⟩ := erCl_ok erb_value h1
  obtain ⟨cc, F, n1, n2, n3, n4, n5, ncl, cell, fn, code, ⟨ccl, cdd, vs, ccs, tf, fl1, fl2⟩, fi⟩ := erFn_ok h2 e rfl
  have T : ErrC P K mg C f cc F "ValueError" "ValueError.__new__" "ValueError.__init__" [.type "ValueError", .type "Exception", .type "BaseException", .type "object"] := ⟨ox, ncl, cell, fn, code, ⟨_, _, _, _, _, _, fl1, fl2, by rw [hf]; exact beq_self_eq_true _⟩, by rw [n3]; exact ⟨_, rfl, rfl⟩, su, ht, opq, ini, isb, sub, by rw [n5]; rfl, by rw [n5]; rfl, by rw [n5]; rfl, by rw [n5]; rfl⟩
  obtain ⟨od, sl, doc, pm, ctv, ho⟩ := fn
  have ty : PySem.W.typeIn K (.ref f) = some (.type "function") := by show (List.lookup f K).map (·.cls) = _; rw [ho]; rfl
  obtain ⟨Fn, Fq, Fp, Fb, Fs, Fcl, Fc⟩ := F
  dsimp only at n1 n2 n3 n4 n5 ncl
  subst n1 n2 n3 n4 n5 ncl
  have sc : NScope ["self", "name", "__class__"] ["self", "name"] ["__class__"] er_DuplicateName.scope := nscope_by (by decide +kernel)
  have hb : er_DuplicateName.body = [.Assign [.Tuple (.Attribute (.Name "self" _) "code" _ :: [.Attribute (.Name "self" _) "name" _]) _ _] (.Tuple (.Constant (.str "DuplicateName") _ _ :: [.Name "name" _]) _ _) _, .Expr (.Call (.Attribute (.Call (.Name "super" _) [] [] _) "__init__" _) [.Name "name" _] [] _) _] := rfl
  have FK := err_fn (CX := L2.CX P w) (w := w) (base := base) (k := 0) (N := ["self", "name", "__class__"]) (ps := ["self", "name"]) (xs := ["name"]) (code := "DuplicateName") T ⟨_, _, _, ho⟩ sc rfl rfl hb (.cons .nil) (.cons rfl rfl (by decide) (by decide) .nil) rfl (.cons rfl rfl (by decide) (by decide) .nil) rfl (by decide) (findB_ok (K := K) (C := C) (by assumption)) (fun _ => rfl) (fun _ => rfl) (fun _ => rfl) (fun _ => rfl) (fun _ => rfl) (fun _ => .inr ⟨_, _, rfl, rfl⟩) (fun _ => by exact sup_eval rfl rfl) (fun _ => rfl)
  exact ⟨gl, f, _, ["self", "name"], "ValueError", "ValueError.__new__", "ValueError.__init__", [.type "ValueError", .type "Exception", .type "BaseException", .type "object"], ox, fi, ty, FK, ⟨fun s u ws _ hl => .of_eq (match ws, hl with | [_], _ => rfl)⟩⟩
theorem ik_Full_limit {P : Program} {w : World} {K : PySem.W.Frag} {mg : Str → Option Value} {base : Heap} {C f : Addr} {file : Str} (hf : P.main.file = file) (ht : (P.main.scope.names.lookup ("super" : Str)).isSome = false) (gl : mg "Full" = some (.ref C)) (su : mg "super" = none) (h1 : erClB K C "ValueError" "ValueError.__new__" "ValueError.__init__" [.type "ValueError", .type "Exception", .type "BaseException", .type "object"] = true) (h2 : erFnB K C f "Full.__init__" file = true) (hN : findB K C ("code" :: ["limit"]) = true) (e : erObs K f = er_Full.val) : ErK P w K mg base 1 "Full" "Full" ["limit"] C ["limit"] [0] := by
  obtain ⟨ox, opq, ini, isb, sub⟩ := erCl_ok erb_value h1
  obtain ⟨cc, F, n1, n2, n3, n4, n5, ncl, cell, fn, code, ⟨ccl, cdd, vs, ccs, tf, fl1, fl2⟩, fi⟩ := erFn_ok h2 e rfl
  have T : ErrC P K mg C f cc F "ValueError" "ValueError.__new__" "ValueError.__init__" [.type "ValueError", .type "Exception", .type "BaseException", .type "object"] := ⟨ox, ncl, cell, fn, code, ⟨_, _, _, _, _, _, fl1, fl2, by rw [hf]; exact beq_self_eq_true _⟩, by rw [n3]; exact ⟨_, rfl, rfl⟩, su, ht, opq, ini, isb, sub, by rw [n5]; rfl, by rw [n5]; rfl, by rw [n5]; rfl, by rw [n5]; rfl⟩
  obtain ⟨od, sl, doc, pm, ctv, ho⟩ := fn
  have ty : PySem.W.typeIn K (.ref f) = some (.type "function") := by show (List.lookup f K).map (·.cls) = _; rw [ho]; rfl
  obtain ⟨Fn, Fq, Fp, Fb, Fs, Fcl, Fc⟩ := F
  dsimp only at n1 n2 n3 n4 n5 ncl
  subst n1 n2 n3 n4 n5 ncl
  have sc : NScope ["self", "limit", "__class__"] ["self", "limit"] ["__class__"] er_Full.scope := nscope_by (by decide +kernel)
  have hb : er_Full.body = [.Assign [.Tuple (.Attribute (.Name "self" _) "code" _ :: [.Attribute (.Name "self" _) "limit" _]) _ _] (.Tuple (.Constant (.str "Full") _ _ :: [.Name "limit" _]) _ _) _, .Expr (.Call (.Attribute (.Call (.Name "super" _) [] [] _) "__init__" _) [.Name "limit" _] [] _) _] := rfl
  have FK := err_fn (CX := L2.CX P w) (w := w) (base := base) (k := 0) (N := ["self", "limit", "__class__"]) (ps := ["self", "limit"]) (xs := ["limit"]) (code := "Full") T ⟨_, _, _, ho⟩ sc rfl rfl hb (.cons .nil) (.cons rfl rfl (by decide) (by decide) .nil) rfl (.cons rfl rfl (by decide) (by decide) .nil) rfl (by decide) (findB_ok (K := K) (C := C) (by assumption)) (fun _ => rfl) (fun _ => rfl) (fun _ => rfl) (fun _ => rfl) (fun _ => rfl) (fun _ => .inr ⟨_, _, rfl, rfl⟩) (fun _ => by exact sup_eval rfl rfl) (fun _ => rfl)
  exact ⟨gl, f, _, ["self", "limit"], "ValueError", "ValueError.__new__", "ValueError.__init__", [.type "ValueError", .type "Exception", .type "BaseException", .type "object"], ox, fi, ty, FK, ⟨fun s u ws _ hl => .of_eq (match ws, hl with | [_], _ => rfl)⟩⟩
theorem ik_InvalidClause_at {P : Program} {w : World} {K : PySem.W.Frag} {mg : Str → Option Value} {base : Heap} {C f : Addr} {file : Str} (hf : P.main.file = file) (ht : (P.main.scope.names.lookup ("super" : Str)).isSome = false) (gl : mg "InvalidClause" = some (.ref C)) (su : mg "super" = none) (h1 : erClB K C "ValueError" "ValueError.__new__" "ValueError.__init__" [.type "ValueError", .type "Exception", .type "BaseException", .type "object"] = true) (h2 : erFnB K C f "InvalidClause.__init__" file = true) (hN : findB K C ("code" :: ["at"]) = true) (e : erObs K f = er_InvalidClause.val) : ErK P w K mg base 1 "InvalidClause" "InvalidClause" ["at"] C ["at"] [0] := by
  obtain ⟨ox, opq, ini, isb, sub⟩ := erCl_ok erb_value h1
  obtain ⟨cc, F, n1, n2, n3, n4, n5, ncl, cell, fn, code, ⟨ccl, cdd, vs, ccs, tf, fl1, fl2⟩, fi⟩ := erFn_ok h2 e rfl
  have T : ErrC P K mg C f cc F "ValueError" "ValueError.__new__" "ValueError.__init__" [.type "ValueError", .type "Exception", .type "BaseException", .type "object"] := ⟨ox, ncl, cell, fn, code, ⟨_, _, _, _, _, _, fl1, fl2, by rw [hf]; exact beq_self_eq_true _⟩, by rw [n3]; exact ⟨_, rfl, rfl⟩, su, ht, opq, ini, isb, sub, by rw [n5]; rfl, by rw [n5]; rfl, by rw [n5]; rfl, by rw [n5]; rfl⟩
  obtain ⟨od, sl, doc, pm, ctv, ho⟩ := fn
  have ty : PySem.W.typeIn K (.ref f) = some (.type "function") := by show (List.lookup f K).map (·.cls) = _; rw [ho]; rfl
  obtain ⟨Fn, Fq, Fp, Fb, Fs, Fcl, Fc⟩ := F
  dsimp only at n1 n2 n3 n4 n5 ncl
  subst n1 n2 n3 n4 n5 ncl
  have sc : NScope ["self", "at", "__class__"] ["self", "at"] ["__class__"] er_InvalidClause.scope := nscope_by (by decide +kernel)
  have hb : er_InvalidClause.body = [.Assign [.Tuple (.Attribute (.Name "self" _) "code" _ :: [.Attribute (.Name "self" _) "at" _]) _ _] (.Tuple (.Constant (.str "InvalidClause") _ _ :: [.Name "at" _]) _ _) _, .Expr (.Call (.Attribute (.Call (.Name "super" _) [] [] _) "__init__" _) [.Name "at" _] [] _) _] := rfl
  have FK := err_fn (CX := L2.CX P w) (w := w) (base := base) (k := 0) (N := ["self", "at", "__class__"]) (ps := ["self", "at"]) (xs := ["at"]) (code := "InvalidClause") T ⟨_, _, _, ho⟩ sc rfl rfl hb (.cons .nil) (.cons rfl rfl (by decide) (by decide) .nil) rfl (.cons rfl rfl (by decide) (by decide) .nil) rfl (by decide) (findB_ok (K := K) (C := C) (by assumption)) (fun _ => rfl) (fun _ => rfl) (fun _ => rfl) (fun _ => rfl) (fun _ => rfl) (fun _ => .inr ⟨_, _, rfl, rfl⟩) (fun _ => by exact sup_eval rfl rfl) (fun _ => rfl)
  exact ⟨gl, f, _, ["self", "at"], "ValueError", "ValueError.__new__", "ValueError.__init__", [.type "ValueError", .type "Exception", .type "BaseException", .type "object"], ox, fi, ty, FK, ⟨fun s u ws _ hl => .of_eq (match ws, hl with | [_], _ => rfl)⟩⟩
theorem ik_InvalidCommand_at {P : Program} {w : World} {K : PySem.W.Frag} {mg : Str → Option Value} {base : Heap} {C f : Addr} {file : Str} (hf : P.main.file = file) (ht : (P.main.scope.names.lookup ("super" : Str)).isSome = false) (gl : mg "InvalidCommand" = some (.ref C)) (su : mg "super" = none) (h1 : erClB K C "ValueError" "ValueError.__new__" "ValueError.__init__" [.type "ValueError", .type "Exception", .type "BaseException", .type "object"] = true) (h2 : erFnB K C f "InvalidCommand.__init__" file = true) (hN : findB K C ("code" :: ["at"]) = true) (e : erObs K f = er_InvalidCommand.val) : ErK P w K mg base 1 "InvalidCommand" "InvalidCommand" ["at"] C ["at"] [0] := by
  obtain ⟨ox, opq, ini, isb, sub⟩ := erCl_ok erb_value h1
  obtain ⟨cc, F, n1, n2, n3, n4, n5, ncl, cell, fn, code, ⟨ccl, cdd, vs, ccs, tf, fl1, fl2⟩, fi⟩ := erFn_ok h2 e rfl
  have T : ErrC P K mg C f cc F "ValueError" "ValueError.__new__" "ValueError.__init__" [.type "ValueError", .type "Exception", .type "BaseException", .type "object"] := ⟨ox, ncl, cell, fn, code, ⟨_, _, _, _, _, _, fl1, fl2, by rw [hf]; exact beq_self_eq_true _⟩, by rw [n3]; exact ⟨_, rfl, rfl⟩, su, ht, opq, ini, isb, sub, by rw [n5]; rfl, by rw [n5]; rfl, by rw [n5]; rfl, by rw [n5]; rfl⟩
  obtain ⟨od, sl, doc, pm, ctv, ho⟩ := fn
  have ty : PySem.W.typeIn K (.ref f) = some (.type "function") := by show (List.lookup f K).map (·.cls) = _; rw [ho]; rfl
  obtain ⟨Fn, Fq, Fp, Fb, Fs, Fcl, Fc⟩ := F
  dsimp only at n1 n2 n3 n4 n5 ncl
  subst n1 n2 n3 n4 n5 ncl
  have sc : NScope ["self", "at", "__class__"] ["self", "at"] ["__class__"] er_InvalidCommand.scope := nscope_by (by decide +kernel)
  have hb : er_InvalidCommand.body = [.Assign [.Tuple (.Attribute (.Name "self" _) "code" _ :: [.Attribute (.Name "self" _) "at" _]) _ _] (.Tuple (.Constant (.str "InvalidCommand") _ _ :: [.Name "at" _]) _ _) _, .Expr (.Call (.Attribute (.Call (.Name "super" _) [] [] _) "__init__" _) [.Name "at" _] [] _) _] := rfl
  have FK := err_fn (CX := L2.CX P w) (w := w) (base := base) (k := 0) (N := ["self", "at", "__class__"]) (ps := ["self", "at"]) (xs := ["at"]) (code := "InvalidCommand") T ⟨_, _, _, ho⟩ sc rfl rfl hb (.cons .nil) (.cons rfl rfl (by decide) (by decide) .nil) rfl (.cons rfl rfl (by decide) (by decide) .nil) rfl (by decide) (findB_ok (K := K) (C := C) (by assumption)) (fun _ => rfl) (fun _ => rfl) (fun _ => rfl) (fun _ => rfl) (fun _ => rfl) (fun _ => .inr ⟨_, _, rfl, rfl⟩) (fun _ => by exact sup_eval rfl rfl) (fun _ => rfl)
  exact ⟨gl, f, _, ["self", "at"], "ValueError", "ValueError.__new__", "ValueError.__init__", [.type "ValueError", .type "Exception", .type "BaseException", .type "object"], ox, fi, ty, FK, ⟨fun s u ws _ hl => .of_eq (match ws, hl with | [_], _ => rfl)⟩⟩
theorem ik_InvalidLimit_value {P : Program} {w : World} {K : PySem.W.Frag} {mg : Str → Option Value} {base : Heap} {C f : Addr} {file : Str} (hf : P.main.file = file) (ht : (P.main.scope.names.lookup ("super" : Str)).isSome = false) (gl : mg "InvalidLimit" = some (.ref C)) (su : mg "super" = none) (h1 : erClB K C "ValueError" "ValueError.__new__" "ValueError.__init__" [.type "ValueError", .type "Exception", .type "BaseException", .type "object"] = true) (h2 : erFnB K C f "InvalidLimit.__init__" file = true) (hN : findB K C ("code" :: ["value"]) = true) (e : erObs K f = er_InvalidLimit.val) : ErK P w K mg base 1 "InvalidLimit" "InvalidLimit" ["value"] C ["value"] [0] := by
  obtain ⟨ox, opq, ini, isb, sub⟩ := erCl_ok erb_value h1
  obtain ⟨cc, F, n1, n2, n3, n4, n5, ncl, cell, fn, code, ⟨ccl, cdd, vs, ccs, tf, fl1, fl2⟩, fi⟩ := erFn_ok h2 e rfl
  have T : ErrC P K mg C f cc F "ValueError" "ValueError.__new__" "ValueError.__init__" [.type "ValueError", .type "Exception", .type "BaseException", .type "object"] := ⟨ox, ncl, cell, fn, code, ⟨_, _, _, _, _, _, fl1, fl2, by rw [hf]; exact beq_self_eq_true _⟩, by rw [n3]; exact ⟨_, rfl, rfl⟩, su, ht, opq, ini, isb, sub, by rw [n5]; rfl, by rw [n5]; rfl, by rw [n5]; rfl, by rw [n5]; rfl⟩
  obtain ⟨od, sl, doc, pm, ctv, ho⟩ := fn
  have ty : PySem.W.typeIn K (.ref f) = some (.type "function") := by show (List.lookup f K).map (·.cls) = _; rw [ho]; rfl
  obtain ⟨Fn, Fq, Fp, Fb, Fs, Fcl, Fc⟩ := F
  dsimp only at n1 n2 n3 n4 n5 ncl
  subst n1 n2 n3 n4 n5 ncl
  have sc : NScope ["self", "value", "__class__"] ["self", "value"] ["__class__"] er_InvalidLimit.scope := nscope_by (by decide +kernel)
  have hb : er_InvalidLimit.body = [.Assign [.Tuple (.Attribute (.Name "self" _) "code" _ :: [.Attribute (.Name "self" _) "value" _]) _ _] (.Tuple (.Constant (.str "InvalidLimit") _ _ :: [.Name "value" _]) _ _) _, .Expr (.Call (.Attribute (.Call (.Name "super" _) [] [] _) "__init__" _) [.Name "value" _] [] _) _] := rfl
  have FK := err_fn (CX := L2.CX P w) (w := w) (base := base) (k := 0) (N := ["self", "value", "__class__"]) (ps := ["self", "value"]) (xs := ["value"]) (code := "InvalidLimit") T ⟨_, _, _, ho⟩ sc rfl rfl hb (.cons .nil) (.cons rfl rfl (by decide) (by decide) .nil) rfl (.cons rfl rfl (by decide) (by decide) .nil) rfl (by decide) (findB_ok (K := K) (C := C) (by assumption)) (fun _ => rfl) (fun _ => rfl) (fun _ => rfl) (fun _ => rfl) (fun _ => rfl) (fun _ => .inr ⟨_, _, rfl, rfl⟩) (fun _ => by exact sup_eval rfl rfl) (fun _ => rfl)
  exact ⟨gl, f, _, ["self", "value"], "ValueError", "ValueError.__new__", "ValueError.__init__", [.type "ValueError", .type "Exception", .type "BaseException", .type "object"], ox, fi, ty, FK, ⟨fun s u ws _ hl => .of_eq (match ws, hl with | [_], _ => rfl)⟩⟩
theorem ik_InvalidMoment_value {P : Program} {w : World} {K : PySem.W.Frag} {mg : Str → Option Value} {base : Heap} {C f : Addr} {file : Str} (hf : P.main.file = file) (ht : (P.main.scope.names.lookup ("super" : Str)).isSome = false) (gl : mg "InvalidMoment" = some (.ref C)) (su : mg "super" = none) (h1 : erClB K C "ValueError" "ValueError.__new__" "ValueError.__init__" [.type "ValueError", .type "Exception", .type "BaseException", .type "object"] = true) (h2 : erFnB K C f "InvalidMoment.__init__" file = true) (hN : findB K C ("code" :: ["value"]) = true) (e : erObs K f = er_InvalidMoment.val) : ErK P w K mg base 1 "InvalidMoment" "InvalidMoment" ["value"] C ["value"] [0] := by
  obtain ⟨ox, opq, ini, isb, sub⟩ := erCl_ok erb_value h1
  obtain ⟨cc, F, n1, n2, n3, n4, n5, ncl, cell, fn, code, ⟨ccl, cdd, vs, ccs, tf, fl1, fl2⟩, fi⟩ := erFn_ok h2 e rfl
  have T : ErrC P K mg C f cc F "ValueError" "ValueError.__new__" "ValueError.__init__" [.type "ValueError", .type "Exception", .type "BaseException", .type "object"] := ⟨ox, ncl, cell, fn, code, ⟨_, _, _, _, _, _, fl1, fl2, by rw [hf]; exact beq_self_eq_true _⟩, by rw [n3]; exact ⟨_, rfl, rfl⟩, su, ht, opq, ini, isb, sub, by rw [n5]; rfl, by rw [n5]; rfl, by rw [n5]; rfl, by rw [n5]; rfl⟩
  obtain ⟨od, sl, doc, pm, ctv, ho⟩ := fn
  have ty : PySem.W.typeIn K (.ref f) = some (.type "function") := by show (List.lookup f K).map (·.cls) = _; rw [ho]; rfl
  obtain ⟨Fn, Fq, Fp, Fb, Fs, Fcl, Fc⟩ := F
  dsimp only at n1 n2 n3 n4 n5 ncl
  subst n1 n2 n3 n4 n5 ncl
  have sc : NScope ["self", "value", "__class__"] ["self", "value"] ["__class__"] er_InvalidMoment.scope := nscope_by (by decide +kernel)
  have hb : er_InvalidMoment.body = [.Assign [.Tuple (.Attribute (.Name "self" _) "code" _ :: [.Attribute (.Name "self" _) "value" _]) _ _] (.Tuple (.Constant (.str "InvalidMoment") _ _ :: [.Name "value" _]) _ _) _, .Expr (.Call (.Attribute (.Call (.Name "super" _) [] [] _) "__init__" _) [.Name "value" _] [] _) _] := rfl
  have FK := err_fn (CX := L2.CX P w) (w := w) (base := base) (k := 0) (N := ["self", "value", "__class__"]) (ps := ["self", "value"]) (xs := ["value"]) (code := "InvalidMoment") T ⟨_, _, _, ho⟩ sc rfl rfl hb (.cons .nil) (.cons rfl rfl (by decide) (by decide) .nil) rfl (.cons rfl rfl (by decide) (by decide) .nil) rfl (by decide) (findB_ok (K := K) (C := C) (by assumption)) (fun _ => rfl) (fun _ => rfl) (fun _ => rfl) (fun _ => rfl) (fun _ => rfl) (fun _ => .inr ⟨_, _, rfl, rfl⟩) (fun _ => by exact sup_eval rfl rfl) (fun _ => rfl)
  exact ⟨gl, f, _, ["self", "value"], "ValueError", "ValueError.__new__", "ValueError.__init__", [.type "ValueError", .type "Exception", .type "BaseException", .type "object"], ox, fi, ty, FK, ⟨fun s u ws _ hl => .of_eq (match ws, hl with | [_], _ => rfl)⟩⟩
theorem ik_InvalidName_value {P : Program} {w : World} {K : PySem.W.Frag} {mg : Str → Option Value} {base : Heap} {C f : Addr} {file : Str} (hf : P.main.file = file) (ht : (P.main.scope.names.lookup ("super" : Str)).isSome = false) (gl : mg "InvalidName" = some (.ref C)) (su : mg "super" = none) (h1 : erClB K C "ValueError" "ValueError.__new__" "ValueError.__init__" [.type "ValueError", .type "Exception", .type "BaseException", .type "object"] = true) (h2 : erFnB K C f "InvalidName.__init__" file = true) (hN : findB K C ("code" :: ["value"]) = true) (e : erObs K f = er_InvalidName.val) : ErK P w K mg base 1 "InvalidName" "InvalidName" ["value"] C ["value"] [0] := by
  obtain ⟨ox, opq, ini, isb, sub⟩ := erCl_ok erb_value h1
  obtain ⟨cc, F, n1, n2, n3, n4, n5, ncl, cell, fn, code, ⟨ccl, cdd, vs, ccs, tf, fl1, fl2⟩, fi⟩ := erFn_ok h2 e rfl
  have T : ErrC P K mg C f cc F "ValueError" "ValueError.__new__" "ValueError.__init__" [.type "ValueError", .type "Exception", .type "BaseException", .type "object"] := ⟨ox, ncl, cell, fn, code, ⟨_, _, _, _, _, _, fl1, fl2, by rw [hf]; exact beq_self_eq_true _⟩, by rw [n3]; exact ⟨_, rfl, rfl⟩, su, ht, opq, ini, isb, sub, by rw [n5]; rfl, by rw [n5]; rfl, by rw [n5]; rfl, by rw [n5]; rfl⟩
  obtain ⟨od, sl, doc, pm, ctv, ho⟩ := fn
  have ty : PySem.W.typeIn K (.ref f) = some (.type "function") := by show (List.lookup f K).map (·.cls) = _; rw [ho]; rfl
  obtain ⟨Fn, Fq, Fp, Fb, Fs, Fcl, Fc⟩ := F
  dsimp only at n1 n2 n3 n4 n5 ncl
  subst n1 n2 n3 n4 n5 ncl
  have sc : NScope ["self", "value", "__class__"] ["self", "value"] ["__class__"] er_InvalidName.scope := nscope_by (by decide +kernel)
  have hb : er_InvalidName.body = [.Assign [.Tuple (.Attribute (.Name "self" _) "code" _ :: [.Attribute (.Name "self" _) "value" _]) _ _] (.Tuple (.Constant (.str "InvalidName") _ _ :: [.Name "value" _]) _ _) _, .Expr (.Call (.Attribute (.Call (.Name "super" _) [] [] _) "__init__" _) [.Name "value" _] [] _) _] := rfl
  have FK := err_fn (CX := L2.CX P w) (w := w) (base := base) (k := 0) (N := ["self", "value", "__class__"]) (ps := ["self", "value"]) (xs := ["value"]) (code := "InvalidName") T ⟨_, _, _, ho⟩ sc rfl rfl hb (.cons .nil) (.cons rfl rfl (by decide) (by decide) .nil) rfl (.cons rfl rfl (by decide) (by decide) .nil) rfl (by decide) (findB_ok (K := K) (C := C) (by assumption)) (fun _ => rfl) (fun _ => rfl) (fun _ => rfl) (fun _ => rfl) (fun _ => rfl) (fun _ => .inr ⟨_, _, rfl, rfl⟩) (fun _ => by exact sup_eval rfl rfl) (fun _ => rfl)
  exact ⟨gl, f, _, ["self", "value"], "ValueError", "ValueError.__new__", "ValueError.__init__", [.type "ValueError", .type "Exception", .type "BaseException", .type "object"], ox, fi, ty, FK, ⟨fun s u ws _ hl => .of_eq (match ws, hl with | [_], _ => rfl)⟩⟩
theorem ik_InvalidNumber_value {P : Program} {w : World} {K : PySem.W.Frag} {mg : Str → Option Value} {base : Heap} {C f : Addr} {file : Str} (hf : P.main.file = file) (ht : (P.main.scope.names.lookup ("super" : Str)).isSome = false) (gl : mg "InvalidNumber" = some (.ref C)) (su : mg "super" = none) (h1 : erClB K C "ValueError" "ValueError.__new__" "ValueError.__init__" [.type "ValueError", .type "Exception", .type "BaseException", .type "object"] = true) (h2 : erFnB K C f "InvalidNumber.__init__" file = true) (hN : findB K C ("code" :: ["value"]) = true) (e : erObs K f = er_InvalidNumber.val) : ErK P w K mg base 1 "InvalidNumber" "InvalidNumber" ["value"] C ["value"] [0] := by
  obtain ⟨ox, opq, ini, isb, sub⟩ := erCl_ok erb_value h1
  obtain ⟨cc, F, n1, n2, n3, n4, n5, ncl, cell, fn, code, ⟨ccl, cdd, vs, ccs, tf, fl1, fl2⟩, fi⟩ := erFn_ok h2 e rfl
  have T : ErrC P K mg C f cc F "ValueError" "ValueError.__new__" "ValueError.__init__" [.type "ValueError", .type "Exception", .type "BaseException", .type "object"] := ⟨ox, ncl, cell, fn, code, ⟨_, _, _, _, _, _, fl1, fl2, by rw [hf]; exact beq_self_eq_true _⟩, by rw [n3]; exact ⟨_, rfl, rfl⟩, su, ht, opq, ini, isb, sub, by rw [n5]; rfl, by rw [n5]; rfl, by rw [n5]; rfl, by rw [n5]; rfl⟩
  obtain ⟨od, sl, doc, pm, ctv, ho⟩ := fn
  have ty : PySem.W.typeIn K (.ref f) = some (.type "function") := by show (List.lookup f K).map (·.cls) = _; rw [ho]; rfl
  obtain ⟨Fn, Fq, Fp, Fb, Fs, Fcl, Fc⟩ := F
  dsimp only at n1 n2 n3 n4 n5 ncl
  subst n1 n2 n3 n4 n5 ncl
  have sc : NScope ["self", "value", "__class__"] ["self", "value"] ["__class__"] er_InvalidNumber.scope := nscope_by (by decide +kernel)
  have hb : er_InvalidNumber.body = [.Assign [.Tuple (.Attribute (.Name "self" _) "code" _ :: [.Attribute (.Name "self" _) "value" _]) _ _] (.Tuple (.Constant (.str "InvalidNumber") _ _ :: [.Name "value" _]) _ _) _, .Expr (.Call (.Attribute (.Call (.Name "super" _) [] [] _) "__init__" _) [.Name "value" _] [] _) _] := rfl
  have FK := err_fn (CX := L2.CX P w) (w := w) (base := base) (k := 0) (N := ["self", "value", "__class__"]) (ps := ["self", "value"]) (xs := ["value"]) (code := "InvalidNumber") T ⟨_, _, _, ho⟩ sc rfl rfl hb (.cons .nil) (.cons rfl rfl (by decide) (by decide) .nil) rfl (.cons rfl rfl (by decide) (by decide) .nil) rfl (by decide) (findB_ok (K := K) (C := C) (by assumption)) (fun _ => rfl) (fun _ => rfl) (fun _ => rfl) (fun _ => rfl) (fun _ => rfl) (fun _ => .inr ⟨_, _, rfl, rfl⟩) (fun _ => by exact sup_eval rfl rfl) (fun _ => rfl)
  exact ⟨gl, f, _, ["self", "value"], "ValueError", "ValueError.__new__", "ValueError.__init__", [.type "ValueError", .type "Exception", .type "BaseException", .type "object"], ox, fi, ty, FK, ⟨fun s u ws _ hl => .of_eq (match ws, hl with | [_], _ => rfl)⟩⟩
theorem ik_InvalidPage_line {P : Program} {w : World} {K : PySem.W.Frag} {mg : Str → Option Value} {base : Heap} {C f : Addr} {file : Str} (hf : P.main.file = file) (ht : (P.main.scope.names.lookup ("super" : Str)).isSome = false) (gl : mg "InvalidPage" = some (.ref C)) (su : mg "super" = none) (h1 : erClB K C "ValueError" "ValueError.__new__" "ValueError.__init__" [.type "ValueError", .type "Exception", .type "BaseException", .type "object"] = true) (h2 : erFnB K C f "InvalidPage.__init__" file = true) (hN : findB K C ("code" :: ["line"]) = true) (e : erObs K f = er_InvalidPage.val) : ErK P w K mg base 1 "InvalidPage" "InvalidPage" ["line"] C ["line"] [0] := by
  obtain ⟨ox, opq, ini, isb, sub⟩ := erCl_ok erb_value h1
  obtain ⟨cc, F, n1, n2, n3, n4, n5, ncl, cell, fn, code, ⟨ccl, cdd, vs, ccs, tf, fl1, fl2⟩, fi⟩ := erFn_ok h2 e rfl
  have T : ErrC P K mg C f cc F "ValueError" "ValueError.__new__" "ValueError.__init__" [.type "ValueError", .type "Exception", .type "BaseException", .type "object"] := ⟨ox, ncl, cell, fn, code, ⟨_, _, _, _, _, _, fl1, fl2, by rw [hf]; exact beq_self_eq_true _⟩, by rw [n3]; exact ⟨_, rfl, rfl⟩, su, ht, opq, ini, isb, sub, by rw [n5]; rfl, by rw [n5]; rfl, by rw [n5]; rfl, by rw [n5]; rfl⟩
  obtain ⟨od, sl, doc, pm, ctv, ho⟩ := fn
  have ty : PySem.W.typeIn K (.ref f) = some (.type "function") := by show (List.lookup f K).map (·.cls) = _; rw [ho]; rfl
  obtain ⟨Fn, Fq, Fp, Fb, Fs, Fcl, Fc⟩ := F
  dsimp only at n1 n2 n3 n4 n5 ncl
  subst n1 n2 n3 n4 n5 ncl
  have sc : NScope ["self", "line", "__class__"] ["self", "line"] ["__class__"] er_InvalidPage.scope := nscope_by (by decide +kernel)
  have hb : er_InvalidPage.body = [.Assign [.Tuple (.Attribute (.Name "self" _) "code" _ :: [.Attribute (.Name "self" _) "line" _]) _ _] (.Tuple (.Constant (.str "InvalidPage") _ _ :: [.Name "line" _]) _ _) _, .Expr (.Call (.Attribute (.Call (.Name "super" _) [] [] _) "__init__" _) [.Name "line" _] [] _) _] := rfl
  have FK := err_fn (CX := L2.CX P w) (w := w) (base := base) (k := 0) (N := ["self", "line", "__class__"]) (ps := ["self", "line"]) (xs := ["line"]) (code := "InvalidPage") T ⟨_, _, _, ho⟩ sc rfl rfl hb (.cons .nil) (.cons rfl rfl (by decide) (by decide) .nil) rfl (.cons rfl rfl (by decide) (by decide) .nil) rfl (by decide) (findB_ok (K := K) (C := C) (by assumption)) (fun _ => rfl) (fun _ => rfl) (fun _ => rfl) (fun _ => rfl) (fun _ => rfl) (fun _ => .inr ⟨_, _, rfl, rfl⟩) (fun _ => by exact sup_eval rfl rfl) (fun _ => rfl)
  exact ⟨gl, f, _, ["self", "line"], "ValueError", "ValueError.__new__", "ValueError.__init__", [.type "ValueError", .type "Exception", .type "BaseException", .type "object"], ox, fi, ty, FK, ⟨fun s u ws _ hl => .of_eq (match ws, hl with | [_], _ => rfl)⟩⟩
theorem ik_InvalidPoint_value {P : Program} {w : World} {K : PySem.W.Frag} {mg : Str → Option Value} {base : Heap} {C f : Addr} {file : Str} (hf : P.main.file = file) (ht : (P.main.scope.names.lookup ("super" : Str)).isSome = false) (gl : mg "InvalidPoint" = some (.ref C)) (su : mg "super" = none) (h1 : erClB K C "ValueError" "ValueError.__new__" "ValueError.__init__" [.type "ValueError", .type "Exception", .type "BaseException", .type "object"] = true) (h2 : erFnB K C f "InvalidPoint.__init__" file = true) (hN : findB K C ("code" :: ["value"]) = true) (e : erObs K f = er_InvalidPoint.val) : ErK P w K mg base 1 "InvalidPoint" "InvalidPoint" ["value"] C ["value"] [0] := by
  obtain ⟨ox, opq, ini, isb, sub⟩ := erCl_ok erb_value h1
  obtain ⟨cc, F, n1, n2, n3, n4, n5, ncl, cell, fn, code, ⟨ccl, cdd, vs, ccs, tf, fl1, fl2⟩, fi⟩ := erFn_ok h2 e rfl
  have T : ErrC P K mg C f cc F "ValueError" "ValueError.__new__" "ValueError.__init__" [.type "ValueError", .type "Exception", .type "BaseException", .type "object"] := ⟨ox, ncl, cell, fn, code, ⟨_, _, _, _, _, _, fl1, fl2, by rw [hf]; exact beq_self_eq_true _⟩, by rw [n3]; exact ⟨_, rfl, rfl⟩, su, ht, opq, ini, isb, sub, by rw [n5]; rfl, by rw [n5]; rfl, by rw [n5]; rfl, by rw [n5]; rfl⟩
  obtain ⟨od, sl, doc, pm, ctv, ho⟩ := fn
  have ty : PySem.W.typeIn K (.ref f) = some (.type "function") := by show (List.lookup f K).map (·.cls) = _; rw [ho]; rfl
  obtain ⟨Fn, Fq, Fp, Fb, Fs, Fcl, Fc⟩ := F
  dsimp only at n1 n2 n3 n4 n5 ncl
  subst n1 n2 n3 n4 n5 ncl
  have sc : NScope ["self", "value", "__class__"] ["self", "value"] ["__class__"] er_InvalidPoint.scope := nscope_by (by decide +kernel)
  have hb : er_InvalidPoint.body = [.Assign [.Tuple (.Attribute (.Name "self" _) "code" _ :: [.Attribute (.Name "self" _) "value" _]) _ _] (.Tuple (.Constant (.str "InvalidPoint") _ _ :: [.Name "value" _]) _ _) _, .Expr (.Call (.Attribute (.Call (.Name "super" _) [] [] _) "__init__" _) [.Name "value" _] [] _) _] := rfl
  have FK := err_fn (CX := L2.CX P w) (w := w) (base := base) (k := 0) (N := ["self", "value", "__class__"]) (ps := ["self", "value"]) (xs := ["value"]) (code := "InvalidPoint") T ⟨_, _, _, ho⟩ sc rfl rfl hb (.cons .nil) (.cons rfl rfl (by decide) (by decide) .nil) rfl (.cons rfl rfl (by decide) (by decide) .nil) rfl (by decide) (findB_ok (K := K) (C := C) (by assumption)) (fun _ => rfl) (fun _ => rfl) (fun _ => rfl) (fun _ => rfl) (fun _ => rfl) (fun _ => .inr ⟨_, _, rfl, rfl⟩) (fun _ => by exact sup_eval rfl rfl) (fun _ => rfl)
  exact ⟨gl, f, _, ["self", "value"], "ValueError", "ValueError.__new__", "ValueError.__init__", [.type "ValueError", .type "Exception", .type "BaseException", .type "object"], ox, fi, ty, FK, ⟨fun s u ws _ hl => .of_eq (match ws, hl with | [_], _ => rfl)⟩⟩
theorem ik_InvalidRow_at {P : Program} {w : World} {K : PySem.W.Frag} {mg : Str → Option Value} {base : Heap} {C f : Addr} {file : Str} (hf : P.main.file = file) (ht : (P.main.scope.names.lookup ("super" : Str)).isSome = false) (gl : mg "InvalidRow" = some (.ref C)) (su : mg "super" = none) (h1 : erClB K C "ValueError" "ValueError.__new__" "ValueError.__init__" [.type "ValueError", .type "Exception", .type "BaseException", .type "object"] = true) (h2 : erFnB K C f "InvalidRow.__init__" file = true) (hN : findB K C ("code" :: ["at"]) = true) (e : erObs K f = er_InvalidRow.val) : ErK P w K mg base 1 "InvalidRow" "InvalidRow" ["at"] C ["at"] [0] := by
  obtain ⟨ox, opq, ini, isb, sub⟩ := erCl_ok erb_value h1
  obtain ⟨cc, F, n1, n2, n3, n4, n5, ncl, cell, fn, code, ⟨ccl, cdd, vs, ccs, tf, fl1, fl2⟩, fi⟩ := erFn_ok h2 e rfl
  have T : ErrC P K mg C f cc F "ValueError" "ValueError.__new__" "ValueError.__init__" [.type "ValueError", .type "Exception", .type "BaseException", .type "object"] := ⟨ox, ncl, cell, fn, code, ⟨_, _, _, _, _, _, fl1, fl2, by rw [hf]; exact beq_self_eq_true _⟩, by rw [n3]; exact ⟨_, rfl, rfl⟩, su, ht, opq, ini, isb, sub, by rw [n5]; rfl, by rw [n5]; rfl, by rw [n5]; rfl, by rw [n5]; rfl⟩
  obtain ⟨od, sl, doc, pm, ctv, ho⟩ := fn
  have ty : PySem.W.typeIn K (.ref f) = some (.type "function") := by show (List.lookup f K).map (·.cls) = _; rw [ho]; rfl
  obtain ⟨Fn, Fq, Fp, Fb, Fs, Fcl, Fc⟩ := F
  dsimp only at n1 n2 n3 n4 n5 ncl
  subst n1 n2 n3 n4 n5 ncl
  have sc : NScope ["self", "at", "__class__"] ["self", "at"] ["__class__"] er_InvalidRow.scope := nscope_by (by decide +kernel)
  have hb : er_InvalidRow.body = [.Assign [.Tuple (.Attribute (.Name "self" _) "code" _ :: [.Attribute (.Name "self" _) "at" _]) _ _] (.Tuple (.Constant (.str "InvalidRow") _ _ :: [.Name "at" _]) _ _) _, .Expr (.Call (.Attribute (.Call (.Name "super" _) [] [] _) "__init__" _) [.Name "at" _] [] _) _] := rfl
  have FK := err_fn (CX := L2.CX P w) (w := w) (base := base) (k := 0) (N := ["self", "at", "__class__"]) (ps := ["self", "at"]) (xs := ["at"]) (code := "InvalidRow") T ⟨_, _, _, ho⟩ sc rfl rfl hb (.cons .nil) (.cons rfl rfl (by decide) (by decide) .nil) rfl (.cons rfl rfl (by decide) (by decide) .nil) rfl (by decide) (findB_ok (K := K) (C := C) (by assumption)) (fun _ => rfl) (fun _ => rfl) (fun _ => rfl) (fun _ => rfl) (fun _ => rfl) (fun _ => .inr ⟨_, _, rfl, rfl⟩) (fun _ => by exact sup_eval rfl rfl) (fun _ => rfl)
  exact ⟨gl, f, _, ["self", "at"], "ValueError", "ValueError.__new__", "ValueError.__init__", [.type "ValueError", .type "Exception", .type "BaseException", .type "object"], ox, fi, ty, FK, ⟨fun s u ws _ hl => .of_eq (match ws, hl with | [_], _ => rfl)⟩⟩
theorem ik_InvalidStep_index_process {P : Program} {w : World} {K : PySem.W.Frag} {mg : Str → Option Value} {base : Heap} {C f : Addr} {file : Str} (hf : P.main.file = file) (ht : (P.main.scope.names.lookup ("super" : Str)).isSome = false) (gl : mg "InvalidStep" = some (.ref C)) (su : mg "super" = none) (h1 : erClB K C "ValueError" "ValueError.__new__" "ValueError.__init__" [.type "ValueError", .type "Exception", .type "BaseException", .type "object"] = true) (h2 : erFnB K C f "InvalidStep.__init__" file = true) (hN : findB K C ("code" :: ["process", "index"]) = true) (e : erObs K f = er_InvalidStep.val) : ErK P w K mg base 1 "InvalidStep" "InvalidStep" ["process", "index"] C ["index", "process"] [1, 0] := by
  obtain ⟨ox, opq, ini, isb, sub⟩ := erCl_ok erb_value h1
  obtain ⟨cc, F, n1, n2, n3, n4, n5, ncl, cell, fn, code, ⟨ccl, cdd, vs, ccs, tf, fl1, fl2⟩, fi⟩ := erFn_ok h2 e rfl
  have T : ErrC P K mg C f cc F "ValueError" "ValueError.__new__" "ValueError.__init__" [.type "ValueError", .type "Exception", .type "BaseException", .type "object"] := ⟨ox, ncl, cell, fn, code, ⟨_, _, _, _, _, _, fl1, fl2, by rw [hf]; exact beq_self_eq_true _⟩, by rw [n3]; exact ⟨_, rfl, rfl⟩, su, ht, opq, ini, isb, sub, by rw [n5]; rfl, by rw [n5]; rfl, by rw [n5]; rfl, by rw [n5]; rfl⟩
  obtain ⟨od, sl, doc, pm, ctv, ho⟩ := fn
  have ty : PySem.W.typeIn K (.ref f) = some (.type "function") := by show (List.lookup f K).map (·.cls) = _; rw [ho]; rfl
  obtain ⟨Fn, Fq, Fp, Fb, Fs, Fcl, Fc⟩ := F
  dsimp only at n1 n2 n3 n4 n5 ncl
  subst n1 n2 n3 n4 n5 ncl
  have sc : NScope ["self", "process", "index", "__class__"] ["self", "process", "index"] ["__class__"] er_InvalidStep.scope := nscope_by (by decide +kernel)
  have hb : er_InvalidStep.body = [.Assign [.Tuple (.Attribute (.Name "self" _) "code" _ :: [.Attribute (.Name "self" _) "process" _, .Attribute (.Name "self" _) "index" _]) _ _] (.Tuple (.Constant (.str "InvalidStep") _ _ :: [.Name "process" _, .Name "index" _]) _ _) _, .Expr (.Call (.Attribute (.Call (.Name "super" _) [] [] _) "__init__" _) [.Name "process" _, .Name "index" _] [] _) _] := rfl
  have FK := err_fn (CX := L2.CX P w) (w := w) (base := base) (k := 0) (N := ["self", "process", "index", "__class__"]) (ps := ["self", "process", "index"]) (xs := ["process", "index"]) (code := "InvalidStep") T ⟨_, _, _, ho⟩ sc rfl rfl hb (.cons (.cons .nil)) (.cons rfl rfl (by decide) (by decide) (.cons rfl rfl (by decide) (by decide) .nil)) rfl (.cons rfl rfl (by decide) (by decide) (.cons rfl rfl (by decide) (by decide) .nil)) rfl (by decide) (findB_ok (K := K) (C := C) (by assumption)) (fun _ => rfl) (fun _ => rfl) (fun _ => rfl) (fun _ => rfl) (fun _ => rfl) (fun _ => .inr ⟨_, _, rfl, rfl⟩) (fun _ => by exact sup_eval rfl rfl) (fun _ => rfl)
  exact ⟨gl, f, _, ["self", "process", "index"], "ValueError", "ValueError.__new__", "ValueError.__init__", [.type "ValueError", .type "Exception", .type "BaseException", .type "object"], ox, fi, ty, FK, ⟨fun s u ws _ hl => .of_eq (match ws, hl with | [_, _], _ => rfl)⟩⟩
theorem ik_InvalidTests_at {P : Program} {w : World} {K : PySem.W.Frag} {mg : Str → Option Value} {base : Heap} {C f : Addr} {file : Str} (hf : P.main.file = file) (ht : (P.main.scope.names.lookup ("super" : Str)).isSome = false) (gl : mg "InvalidTests" = some (.ref C)) (su : mg "super" = none) (h1 : erClB K C "ValueError" "ValueError.__new__" "ValueError.__init__" [.type "ValueError", .type "Exception", .type "BaseException", .type "object"] = true) (h2 : erFnB K C f "InvalidTests.__init__" file = true) (hN : findB K C ("code" :: ["at"]) = true) (e : erObs K f = er_InvalidTests.val) : ErK P w K mg base 1 "InvalidTests" "InvalidTests" ["at"] C ["at"] [0] := by
  obtain ⟨ox, opq, ini, isb, sub⟩ := erCl_ok erb_value h1
  obtain ⟨cc, F, n1, n2, n3, n4, n5, ncl, cell, fn, code, ⟨ccl, cdd, vs, ccs, tf, fl1, fl2⟩, fi⟩ := erFn_ok h2 e rfl
  have T : ErrC P K mg C f cc F "ValueError" "ValueError.__new__" "ValueError.__init__" [.type "ValueError", .type "Exception", .type "BaseException", .type "object"] := ⟨ox, ncl, cell, fn, code, ⟨_, _, _, _, _, _, fl1, fl2, by rw [hf]; exact beq_self_eq_true _⟩, by rw [n3]; exact ⟨_, rfl, rfl⟩, su, ht, opq, ini, isb, sub, by rw [n5]; rfl, by rw [n5]; rfl, by rw [n5]; rfl, by rw [n5]; rfl⟩
  obtain ⟨od, sl, doc, pm, ctv, ho⟩ := fn
  have ty : PySem.W.typeIn K (.ref f) = some (.type "function") := by show (List.lookup f K).map (·.cls) = _; rw [ho]; rfl
  obtain ⟨Fn, Fq, Fp, Fb, Fs, Fcl, Fc⟩ := F
  dsimp only at n1 n2 n3 n4 n5 ncl
  subst n1 n2 n3 n4 n5 ncl
  have sc : NScope ["self", "at", "__class__"] ["self", "at"] ["__class__"] er_InvalidTests.scope := nscope_by (by decide +kernel)
  have hb : er_InvalidTests.body = [.Assign [.Tuple (.Attribute (.Name "self" _) "code" _ :: [.Attribute (.Name "self" _) "at" _]) _ _] (.Tuple (.Constant (.str "InvalidTests") _ _ :: [.Name "at" _]) _ _) _, .Expr (.Call (.Attribute (.Call (.Name "super" _) [] [] _) "__init__" _) [.Name "at" _] [] _) _] := rfl
  have FK := err_fn (CX := L2.CX P w) (w := w) (base := base) (k := 0) (N := ["self", "at", "__class__"]) (ps := ["self", "at"]) (xs := ["at"]) (code := "InvalidTests") T ⟨_, _, _, ho⟩ sc rfl rfl hb (.cons .nil) (.cons rfl rfl (by decide) (by decide) .nil) rfl (.cons rfl rfl (by decide) (by decide) .nil) rfl (by decide) (findB_ok (K := K) (C := C) (by assumption)) (fun _ => rfl) (fun _ => rfl) (fun _ => rfl) (fun _ => rfl) (fun _ => rfl) (fun _ => .inr ⟨_, _, rfl, rfl⟩) (fun _ => by exact sup_eval rfl rfl) (fun _ => rfl)
  exact ⟨gl, f, _, ["self", "at"], "ValueError", "ValueError.__new__", "ValueError.__init__", [.type "ValueError", .type "Exception", .type "BaseException", .type "object"], ox, fi, ty, FK, ⟨fun s u ws _ hl => .of_eq (match ws, hl with | [_], _ => rfl)⟩⟩
theorem ik_InvalidText_at {P : Program} {w : World} {K : PySem.W.Frag} {mg : Str → Option Value} {base : Heap} {C f : Addr} {file : Str} (hf : P.main.file = file) (ht : (P.main.scope.names.lookup ("super" : Str)).isSome = false) (gl : mg "InvalidText" = some (.ref C)) (su : mg "super" = none) (h1 : erClB K C "ValueError" "ValueError.__new__" "ValueError.__init__" [.type "ValueError", .type "Exception", .type "BaseException", .type "object"] = true) (h2 : erFnB K C f "InvalidText.__init__" file = true) (hN : findB K C ("code" :: ["at"]) = true) (e : erObs K f = er_InvalidText.val) : ErK P w K mg base 1 "InvalidText" "InvalidText" ["at"] C ["at"] [0] := by
  obtain ⟨ox, opq, ini, isb, sub⟩ := erCl_ok erb_value h1
  obtain ⟨cc, F, n1, n2, n3, n4, n5, ncl, cell, fn, code, ⟨ccl, cdd, vs, ccs, tf, fl1, fl2⟩, fi⟩ := erFn_ok h2 e rfl
  have T : ErrC P K mg C f cc F "ValueError" "ValueError.__new__" "ValueError.__init__" [.type "ValueError", .type "Exception", .type "BaseException", .type "object"] := ⟨ox, ncl, cell, fn, code, ⟨_, _, _, _, _, _, fl1, fl2, by rw [hf]; exact beq_self_eq_true _⟩, by rw [n3]; exact ⟨_, rfl, rfl⟩, su, ht, opq, ini, isb, sub, by rw [n5]; rfl, by rw [n5]; rfl, by rw [n5]; rfl, by rw [n5]; rfl⟩
  obtain ⟨od, sl, doc, pm, ctv, ho⟩ := fn
  have ty : PySem.W.typeIn K (.ref f) = some (.type "function") := by show (List.lookup f K).map (·.cls) = _; rw [ho]; rfl
  obtain ⟨Fn, Fq, Fp, Fb, Fs, Fcl, Fc⟩ := F
  dsimp only at n1 n2 n3 n4 n5 ncl
  subst n1 n2 n3 n4 n5 ncl
  have sc : NScope ["self", "at", "__class__"] ["self", "at"] ["__class__"] er_InvalidText.scope := nscope_by (by decide +kernel)
  have hb : er_InvalidText.body = [.Assign [.Tuple (.Attribute (.Name "self" _) "code" _ :: [.Attribute (.Name "self" _) "at" _]) _ _] (.Tuple (.Constant (.str "InvalidText") _ _ :: [.Name "at" _]) _ _) _, .Expr (.Call (.Attribute (.Call (.Name "super" _) [] [] _) "__init__" _) [.Name "at" _] [] _) _] := rfl
  have FK := err_fn (CX := L2.CX P w) (w := w) (base := base) (k := 0) (N := ["self", "at", "__class__"]) (ps := ["self", "at"]) (xs := ["at"]) (code := "InvalidText") T ⟨_, _, _, ho⟩ sc rfl rfl hb (.cons .nil) (.cons rfl rfl (by decide) (by decide) .nil) rfl (.cons rfl rfl (by decide) (by decide) .nil) rfl (by decide) (findB_ok (K := K) (C := C) (by assumption)) (fun _ => rfl) (fun _ => rfl) (fun _ => rfl) (fun _ => rfl) (fun _ => rfl) (fun _ => .inr ⟨_, _, rfl, rfl⟩) (fun _ => by exact sup_eval rfl rfl) (fun _ => rfl)
  exact ⟨gl, f, _, ["self", "at"], "ValueError", "ValueError.__new__", "ValueError.__init__", [.type "ValueError", .type "Exception", .type "BaseException", .type "object"], ox, fi, ty, FK, ⟨fun s u ws _ hl => .of_eq (match ws, hl with | [_], _ => rfl)⟩⟩
theorem ik_Parted_other_one_at {P : Program} {w : World} {K : PySem.W.Frag} {mg : Str → Option Value} {base : Heap} {C f : Addr} {file : Str} (hf : P.main.file = file) (ht : (P.main.scope.names.lookup ("super" : Str)).isSome = false) (gl : mg "Parted" = some (.ref C)) (su : mg "super" = none) (h1 : erClB K C "ValueError" "ValueError.__new__" "ValueError.__init__" [.type "ValueError", .type "Exception", .type "BaseException", .type "object"] = true) (h2 : erFnB K C f "Parted.__init__" file = true) (hN : findB K C ("code" :: ["at", "one", "other"]) = true) (e : erObs K f = er_Parted.val) : ErK P w K mg base 1 "Parted" "Parted" ["at", "one", "other"] C ["other", "one", "at"] [2, 1, 0] := by
  obtain ⟨ox, opq, ini, isb, sub⟩ := erCl_ok erb_value h1
  obtain ⟨cc, F, n1, n2, n3, n4, n5, ncl, cell, fn, code, ⟨ccl, cdd, vs, ccs, tf, fl1, fl2⟩, fi⟩ := erFn_ok h2 e rfl
  have T : ErrC P K mg C f cc F "ValueError" "ValueError.__new__" "ValueError.__init__" [.type "ValueError", .type "Exception", .type "BaseException", .type "object"] := ⟨ox, ncl, cell, fn, code, ⟨_, _, _, _, _, _, fl1, fl2, by rw [hf]; exact beq_self_eq_true _⟩, by rw [n3]; exact ⟨_, rfl, rfl⟩, su, ht, opq, ini, isb, sub, by rw [n5]; rfl, by rw [n5]; rfl, by rw [n5]; rfl, by rw [n5]; rfl⟩
  obtain ⟨od, sl, doc, pm, ctv, ho⟩ := fn
  have ty : PySem.W.typeIn K (.ref f) = some (.type "function") := by show (List.lookup f K).map (·.cls) = _; rw [ho]; rfl
  obtain ⟨Fn, Fq, Fp, Fb, Fs, Fcl, Fc⟩ := F
  dsimp only at n1 n2 n3 n4 n5 ncl
  subst n1 n2 n3 n4 n5 ncl
  have sc : NScope ["self", "at", "one", "other", "__class__"] ["self", "at", "one", "other"] ["__class__"] er_Parted.scope := nscope_by (by decide +kernel)
  have hb : er_Parted.body = [.Assign [.Tuple (.Attribute (.Name "self" _) "code" _ :: [.Attribute (.Name "self" _) "at" _, .Attribute (.Name "self" _) "one" _, .Attribute (.Name "self" _) "other" _]) _ _] (.Tuple (.Constant (.str "Parted") _ _ :: [.Name "at" _, .Name "one" _, .Name "other" _]) _ _) _, .Expr (.Call (.Attribute (.Call (.Name "super" _) [] [] _) "__init__" _) [.Name "at" _, .Name "one" _, .Name "other" _] [] _) _] := rfl
  have FK := err_fn (CX := L2.CX P w) (w := w) (base := base) (k := 0) (N := ["self", "at", "one", "other", "__class__"]) (ps := ["self", "at", "one", "other"]) (xs := ["at", "one", "other"]) (code := "Parted") T ⟨_, _, _, ho⟩ sc rfl rfl hb (.cons (.cons (.cons .nil))) (.cons rfl rfl (by decide) (by decide) (.cons rfl rfl (by decide) (by decide) (.cons rfl rfl (by decide) (by decide) .nil))) rfl (.cons rfl rfl (by decide) (by decide) (.cons rfl rfl (by decide) (by decide) (.cons rfl rfl (by decide) (by decide) .nil))) rfl (by decide) (findB_ok (K := K) (C := C) (by assumption)) (fun _ => rfl) (fun _ => rfl) (fun _ => rfl) (fun _ => rfl) (fun _ => rfl) (fun _ => .inr ⟨_, _, rfl, rfl⟩) (fun _ => by exact sup_eval rfl rfl) (fun _ => rfl)
  exact ⟨gl, f, _, ["self", "at", "one", "other"], "ValueError", "ValueError.__new__", "ValueError.__init__", [.type "ValueError", .type "Exception", .type "BaseException", .type "object"], ox, fi, ty, FK, ⟨fun s u ws _ hl => .of_eq (match ws, hl with | [_, _, _], _ => rfl)⟩⟩
theorem ik_Ring_process {P : Program} {w : World} {K : PySem.W.Frag} {mg : Str → Option Value} {base : Heap} {C f : Addr} {file : Str} (hf : P.main.file = file) (ht : (P.main.scope.names.lookup ("super" : Str)).isSome = false) (gl : mg "Ring" = some (.ref C)) (su : mg "super" = none) (h1 : erClB K C "ValueError" "ValueError.__new__" "ValueError.__init__" [.type "ValueError", .type "Exception", .type "BaseException", .type "object"] = true) (h2 : erFnB K C f "Ring.__init__" file = true) (hN : findB K C ("code" :: ["process"]) = true) (e : erObs K f = er_Ring.val) : ErK P w K mg base 1 "Ring" "Ring" ["process"] C ["process"] [0] := by
  obtain ⟨ox, opq, ini, isb, sub⟩ := erCl_ok erb_value h1
  obtain ⟨cc, F, n1, n2, n3, n4, n5, ncl, cell, fn, code, ⟨ccl, cdd, vs, ccs, tf, fl1, fl2⟩, fi⟩ := erFn_ok h2 e rfl
  have T : ErrC P K mg C f cc F "ValueError" "ValueError.__new__" "ValueError.__init__" [.type "ValueError", .type "Exception", .type "BaseException", .type "object"] := ⟨ox, ncl, cell, fn, code, ⟨_, _, _, _, _, _, fl1, fl2, by rw [hf]; exact beq_self_eq_true _⟩, by rw [n3]; exact ⟨_, rfl, rfl⟩, su, ht, opq, ini, isb, sub, by rw [n5]; rfl, by rw [n5]; rfl, by rw [n5]; rfl, by rw [n5]; rfl⟩
  obtain ⟨od, sl, doc, pm, ctv, ho⟩ := fn
  have ty : PySem.W.typeIn K (.ref f) = some (.type "function") := by show (List.lookup f K).map (·.cls) = _; rw [ho]; rfl
  obtain ⟨Fn, Fq, Fp, Fb, Fs, Fcl, Fc⟩ := F
  dsimp only at n1 n2 n3 n4 n5 ncl
  subst n1 n2 n3 n4 n5 ncl
  have sc : NScope ["self", "process", "__class__"] ["self", "process"] ["__class__"] er_Ring.scope := nscope_by (by decide +kernel)
  have hb : er_Ring.body = [.Assign [.Tuple (.Attribute (.Name "self" _) "code" _ :: [.Attribute (.Name "self" _) "process" _]) _ _] (.Tuple (.Constant (.str "Ring") _ _ :: [.Name "process" _]) _ _) _, .Expr (.Call (.Attribute (.Call (.Name "super" _) [] [] _) "__init__" _) [.Name "process" _] [] _) _] := rfl
  have FK := err_fn (CX := L2.CX P w) (w := w) (base := base) (k := 0) (N := ["self", "process", "__class__"]) (ps := ["self", "process"]) (xs := ["process"]) (code := "Ring") T ⟨_, _, _, ho⟩ sc rfl rfl hb (.cons .nil) (.cons rfl rfl (by decide) (by decide) .nil) rfl (.cons rfl rfl (by decide) (by decide) .nil) rfl (by decide) (findB_ok (K := K) (C := C) (by assumption)) (fun _ => rfl) (fun _ => rfl) (fun _ => rfl) (fun _ => rfl) (fun _ => rfl) (fun _ => .inr ⟨_, _, rfl, rfl⟩) (fun _ => by exact sup_eval rfl rfl) (fun _ => rfl)
  exact ⟨gl, f, _, ["self", "process"], "ValueError", "ValueError.__new__", "ValueError.__init__", [.type "ValueError", .type "Exception", .type "BaseException", .type "object"], ox, fi, ty, FK, ⟨fun s u ws _ hl => .of_eq (match ws, hl with | [_], _ => rfl)⟩⟩
theorem ik_TooMany_most_subject {P : Program} {w : World} {K : PySem.W.Frag} {mg : Str → Option Value} {base : Heap} {C f : Addr} {file : Str} (hf : P.main.file = file) (ht : (P.main.scope.names.lookup ("super" : Str)).isSome = false) (gl : mg "TooMany" = some (.ref C)) (su : mg "super" = none) (h1 : erClB K C "ValueError" "ValueError.__new__" "ValueError.__init__" [.type "ValueError", .type "Exception", .type "BaseException", .type "object"] = true) (h2 : erFnB K C f "TooMany.__init__" file = true) (hN : findB K C ("code" :: ["subject", "most"]) = true) (e : erObs K f = er_TooMany.val) : ErK P w K mg base 1 "TooMany" "TooMany" ["subject", "most"] C ["most", "subject"] [1, 0] := by
  obtain ⟨ox, opq, ini, isb, sub⟩ := erCl_ok erb_value h1
  obtain ⟨cc, F, n1, n2, n3, n4, n5, ncl, cell, fn, code, ⟨ccl, cdd, vs, ccs, tf, fl1, fl2⟩, fi⟩ := erFn_ok h2 e rfl
  have T : ErrC P K mg C f cc F "ValueError" "ValueError.__new__" "ValueError.__init__" [.type "ValueError", .type "Exception", .type "BaseException", .type "object"] := ⟨ox, ncl, cell, fn, code, ⟨_, _, _, _, _, _, fl1, fl2, by rw [hf]; exact beq_self_eq_true _⟩, by rw [n3]; exact ⟨_, rfl, rfl⟩, su, ht, opq, ini, isb, sub, by rw [n5]; rfl, by rw [n5]; rfl, by rw [n5]; rfl, by rw [n5]; rfl⟩
  obtain ⟨od, sl, doc, pm, ctv, ho⟩ := fn
  have ty : PySem.W.typeIn K (.ref f) = some (.type "function") := by show (List.lookup f K).map (·.cls) = _; rw [ho]; rfl
  obtain ⟨Fn, Fq, Fp, Fb, Fs, Fcl, Fc⟩ := F
  dsimp only at n1 n2 n3 n4 n5 ncl
  subst n1 n2 n3 n4 n5 ncl
  have sc : NScope ["self", "subject", "most", "__class__"] ["self", "subject", "most"] ["__class__"] er_TooMany.scope := nscope_by (by decide +kernel)
  have hb : er_TooMany.body = [.Assign [.Tuple (.Attribute (.Name "self" _) "code" _ :: [.Attribute (.Name "self" _) "subject" _, .Attribute (.Name "self" _) "most" _]) _ _] (.Tuple (.Constant (.str "TooMany") _ _ :: [.Name "subject" _, .Name "most" _]) _ _) _, .Expr (.Call (.Attribute (.Call (.Name "super" _) [] [] _) "__init__" _) [.Name "subject" _, .Name "most" _] [] _) _] := rfl
  have FK := err_fn (CX := L2.CX P w) (w := w) (base := base) (k := 0) (N := ["self", "subject", "most", "__class__"]) (ps := ["self", "subject", "most"]) (xs := ["subject", "most"]) (code := "TooMany") T ⟨_, _, _, ho⟩ sc rfl rfl hb (.cons (.cons .nil)) (.cons rfl rfl (by decide) (by decide) (.cons rfl rfl (by decide) (by decide) .nil)) rfl (.cons rfl rfl (by decide) (by decide) (.cons rfl rfl (by decide) (by decide) .nil)) rfl (by decide) (findB_ok (K := K) (C := C) (by assumption)) (fun _ => rfl) (fun _ => rfl) (fun _ => rfl) (fun _ => rfl) (fun _ => rfl) (fun _ => .inr ⟨_, _, rfl, rfl⟩) (fun _ => by exact sup_eval rfl rfl) (fun _ => rfl)
  exact ⟨gl, f, _, ["self", "subject", "most"], "ValueError", "ValueError.__new__", "ValueError.__init__", [.type "ValueError", .type "Exception", .type "BaseException", .type "object"], ox, fi, ty, FK, ⟨fun s u ws _ hl => .of_eq (match ws, hl with | [_, _], _ => rfl)⟩⟩
theorem ik_Uneven_block {P : Program} {w : World} {K : PySem.W.Frag} {mg : Str → Option Value} {base : Heap} {C f : Addr} {file : Str} (hf : P.main.file = file) (ht : (P.main.scope.names.lookup ("super" : Str)).isSome = false) (gl : mg "Uneven" = some (.ref C)) (su : mg "super" = none) (h1 : erClB K C "ValueError" "ValueError.__new__" "ValueError.__init__" [.type "ValueError", .type "Exception", .type "BaseException", .type "object"] = true) (h2 : erFnB K C f "Uneven.__init__" file = true) (hN : findB K C ("code" :: ["block"]) = true) (e : erObs K f = er_Uneven.val) : ErK P w K mg base 1 "Uneven" "Uneven" ["block"] C ["block"] [0] := by
  obtain ⟨ox, opq, ini, isb, sub⟩ := erCl_ok erb_value h1
  obtain ⟨cc, F, n1, n2, n3, n4, n5, ncl, cell, fn, code, ⟨ccl, cdd, vs, ccs, tf, fl1, fl2⟩, fi⟩ := erFn_ok h2 e rfl
  have T : ErrC P K mg C f cc F "ValueError" "ValueError.__new__" "ValueError.__init__" [.type "ValueError", .type "Exception", .type "BaseException", .type "object"] := ⟨ox, ncl, cell, fn, code, ⟨_, _, _, _, _, _, fl1, fl2, by rw [hf]; exact beq_self_eq_true _⟩, by rw [n3]; exact ⟨_, rfl, rfl⟩, su, ht, opq, ini, isb, sub, by rw [n5]; rfl, by rw [n5]; rfl, by rw [n5]; rfl, by rw [n5]; rfl⟩
  obtain ⟨od, sl, doc, pm, ctv, ho⟩ := fn
  have ty : PySem.W.typeIn K (.ref f) = some (.type "function") := by show (List.lookup f K).map (·.cls) = _; rw [ho]; rfl
  obtain ⟨Fn, Fq, Fp, Fb, Fs, Fcl, Fc⟩ := F
  dsimp only at n1 n2 n3 n4 n5 ncl
  subst n1 n2 n3 n4 n5 ncl
  have sc : NScope ["self", "block", "__class__"] ["self", "block"] ["__class__"] er_Uneven.scope := nscope_by (by decide +kernel)
  have hb : er_Uneven.body = [.Assign [.Tuple (.Attribute (.Name "self" _) "code" _ :: [.Attribute (.Name "self" _) "block" _]) _ _] (.Tuple (.Constant (.str "Uneven") _ _ :: [.Name "block" _]) _ _) _, .Expr (.Call (.Attribute (.Call (.Name "super" _) [] [] _) "__init__" _) [.Name "block" _] [] _) _] := rfl
  have FK := err_fn (CX := L2.CX P w) (w := w) (base := base) (k := 0) (N := ["self", "block", "__class__"]) (ps := ["self", "block"]) (xs := ["block"]) (code := "Uneven") T ⟨_, _, _, ho⟩ sc rfl rfl hb (.cons .nil) (.cons rfl rfl (by decide) (by decide) .nil) rfl (.cons rfl rfl (by decide) (by decide) .nil) rfl (by decide) (findB_ok (K := K) (C := C) (by assumption)) (fun _ => rfl) (fun _ => rfl) (fun _ => rfl) (fun _ => rfl) (fun _ => rfl) (fun _ => .inr ⟨_, _, rfl, rfl⟩) (fun _ => by exact sup_eval rfl rfl) (fun _ => rfl)
  exact ⟨gl, f, _, ["self", "block"], "ValueError", "ValueError.__new__", "ValueError.__init__", [.type "ValueError", .type "Exception", .type "BaseException", .type "object"], ox, fi, ty, FK, ⟨fun s u ws _ hl => .of_eq (match ws, hl with | [_], _ => rfl)⟩⟩
theorem ik_UnknownName_name {P : Program} {w : World} {K : PySem.W.Frag} {mg : Str → Option Value} {base : Heap} {C f : Addr} {file : Str} (hf : P.main.file = file) (ht : (P.main.scope.names.lookup ("super" : Str)).isSome = false) (gl : mg "UnknownName" = some (.ref C)) (su : mg "super" = none) (h1 : erClB K C "LookupError" "LookupError.__new__" "LookupError.__init__" [.type "LookupError", .type "Exception", .type "BaseException", .type "object"] = true) (h2 : erFnB K C f "UnknownName.__init__" file = true) (hN : findB K C ("code" :: ["name"]) = true) (e : erObs K f = er_UnknownName.val) : ErK P w K mg base 1 "UnknownName" "UnknownName" ["name"] C ["name"] [0] := by
  obtain ⟨ox, opq, ini, isb, sub⟩ := erCl_ok erb_lookup h1
  obtain ⟨cc, F, n1, n2, n3, n4, n5, ncl, cell, fn, code, ⟨ccl, cdd, vs, ccs, tf, fl1, fl2⟩, fi⟩ := erFn_ok h2 e rfl
  have T : ErrC P K mg C f cc F "LookupError" "LookupError.__new__" "LookupError.__init__" [.type "LookupError", .type "Exception", .type "BaseException", .type "object"] := ⟨ox, ncl, cell, fn, code, ⟨_, _, _, _, _, _, fl1, fl2, by rw [hf]; exact beq_self_eq_true _⟩, by rw [n3]; exact ⟨_, rfl, rfl⟩, su, ht, opq, ini, isb, sub, by rw [n5]; rfl, by rw [n5]; rfl, by rw [n5]; rfl, by rw [n5]; rfl⟩
  obtain ⟨od, sl, doc, pm, ctv, ho⟩ := fn
  have ty : PySem.W.typeIn K (.ref f) = some (.type "function") := by show (List.lookup f K).map (·.cls) = _; rw [ho]; rfl
  obtain ⟨Fn, Fq, Fp, Fb, Fs, Fcl, Fc⟩ := F
  dsimp only at n1 n2 n3 n4 n5 ncl
  subst n1 n2 n3 n4 n5 ncl
  have sc : NScope ["self", "name", "__class__"] ["self", "name"] ["__class__"] er_UnknownName.scope := nscope_by (by decide +kernel)
  have hb : er_UnknownName.body = [.Assign [.Tuple (.Attribute (.Name "self" _) "code" _ :: [.Attribute (.Name "self" _) "name" _]) _ _] (.Tuple (.Constant (.str "UnknownName") _ _ :: [.Name "name" _]) _ _) _, .Expr (.Call (.Attribute (.Call (.Name "super" _) [] [] _) "__init__" _) [.Name "name" _] [] _) _] := rfl
  have FK := err_fn (CX := L2.CX P w) (w := w) (base := base) (k := 0) (N := ["self", "name", "__class__"]) (ps := ["self", "name"]) (xs := ["name"]) (code := "UnknownName") T ⟨_, _, _, ho⟩ sc rfl rfl hb (.cons .nil) (.cons rfl rfl (by decide) (by decide) .nil) rfl (.cons rfl rfl (by decide) (by decide) .nil) rfl (by decide) (findB_ok (K := K) (C := C) (by assumption)) (fun _ => rfl) (fun _ => rfl) (fun _ => rfl) (fun _ => rfl) (fun _ => rfl) (fun _ => .inr ⟨_, _, rfl, rfl⟩) (fun _ => by exact sup_eval rfl rfl) (fun _ => rfl)
  exact ⟨gl, f, _, ["self", "name"], "LookupError", "LookupError.__new__", "LookupError.__init__", [.type "LookupError", .type "Exception", .type "BaseException", .type "object"], ox, fi, ty, FK, ⟨fun s u ws _ hl => .of_eq (match ws, hl with | [_], _ => rfl)⟩⟩
theorem ik_UnknownProcess_name {P : Program} {w : World} {K : PySem.W.Frag} {mg : Str → Option Value} {base : Heap} {C f : Addr} {file : Str} (hf : P.main.file = file) (ht : (P.main.scope.names.lookup ("super" : Str)).isSome = false) (gl : mg "UnknownProcess" = some (.ref C)) (su : mg "super" = none) (h1 : erClB K C "LookupError" "LookupError.__new__" "LookupError.__init__" [.type "LookupError", .type "Exception", .type "BaseException", .type "object"] = true) (h2 : erFnB K C f "UnknownProcess.__init__" file = true) (hN : findB K C ("code" :: ["name"]) = true) (e : erObs K f = er_UnknownProcess.val) : ErK P w K mg base 1 "UnknownProcess" "UnknownProcess" ["name"] C ["name"] [0] := by
  obtain ⟨ox, opq, ini, isb, sub⟩ := erCl_ok erb_lookup h1
  obtain ⟨cc, F, n1, n2, n3, n4, n5, ncl, cell, fn, code, ⟨ccl, cdd, vs, ccs, tf, fl1, fl2⟩, fi⟩ := erFn_ok h2 e rfl
  have T : ErrC P K mg C f cc F "LookupError" "LookupError.__new__" "LookupError.__init__" [.type "LookupError", .type "Exception", .type "BaseException", .type "object"] := ⟨ox, ncl, cell, fn, code, ⟨_, _, _, _, _, _, fl1, fl2, by rw [hf]; exact beq_self_eq_true _⟩, by rw [n3]; exact ⟨_, rfl, rfl⟩, su, ht, opq, ini, isb, sub, by rw [n5]; rfl, by rw [n5]; rfl, by rw [n5]; rfl, by rw [n5]; rfl⟩
  obtain ⟨od, sl, doc, pm, ctv, ho⟩ := fn
  have ty : PySem.W.typeIn K (.ref f) = some (.type "function") := by show (List.lookup f K).map (·.cls) = _; rw [ho]; rfl
  obtain ⟨Fn, Fq, Fp, Fb, Fs, Fcl, Fc⟩ := F
  dsimp only at n1 n2 n3 n4 n5 ncl
  subst n1 n2 n3 n4 n5 ncl
  have sc : NScope ["self", "name", "__class__"] ["self", "name"] ["__class__"] er_UnknownProcess.scope := nscope_by (by decide +kernel)
  have hb : er_UnknownProcess.body = [.Assign [.Tuple (.Attribute (.Name "self" _) "code" _ :: [.Attribute (.Name "self" _) "name" _]) _ _] (.Tuple (.Constant (.str "UnknownProcess") _ _ :: [.Name "name" _]) _ _) _, .Expr (.Call (.Attribute (.Call (.Name "super" _) [] [] _) "__init__" _) [.Name "name" _] [] _) _] := rfl
  have FK := err_fn (CX := L2.CX P w) (w := w) (base := base) (k := 0) (N := ["self", "name", "__class__"]) (ps := ["self", "name"]) (xs := ["name"]) (code := "UnknownProcess") T ⟨_, _, _, ho⟩ sc rfl rfl hb (.cons .nil) (.cons rfl rfl (by decide) (by decide) .nil) rfl (.cons rfl rfl (by decide) (by decide) .nil) rfl (by decide) (findB_ok (K := K) (C := C) (by assumption)) (fun _ => rfl) (fun _ => rfl) (fun _ => rfl) (fun _ => rfl) (fun _ => rfl) (fun _ => .inr ⟨_, _, rfl, rfl⟩) (fun _ => by exact sup_eval rfl rfl) (fun _ => rfl)
  exact ⟨gl, f, _, ["self", "name"], "LookupError", "LookupError.__new__", "LookupError.__init__", [.type "LookupError", .type "Exception", .type "BaseException", .type "object"], ox, fi, ty, FK, ⟨fun s u ws _ hl => .of_eq (match ws, hl with | [_], _ => rfl)⟩⟩
theorem ik_UnknownStep_step {P : Program} {w : World} {K : PySem.W.Frag} {mg : Str → Option Value} {base : Heap} {C f : Addr} {file : Str} (hf : P.main.file = file) (ht : (P.main.scope.names.lookup ("super" : Str)).isSome = false) (gl : mg "UnknownStep" = some (.ref C)) (su : mg "super" = none) (h1 : erClB K C "LookupError" "LookupError.__new__" "LookupError.__init__" [.type "LookupError", .type "Exception", .type "BaseException", .type "object"] = true) (h2 : erFnB K C f "UnknownStep.__init__" file = true) (hN : findB K C ("code" :: ["step"]) = true) (e : erObs K f = er_UnknownStep.val) : ErK P w K mg base 1 "UnknownStep" "UnknownStep" ["step"] C ["step"] [0] := by
  obtain ⟨ox, opq, ini, isb, sub⟩ := erCl_ok erb_lookup h1
  obtain ⟨cc, F, n1, n2, n3, n4, n5, ncl, cell, fn, code, ⟨ccl, cdd, vs, ccs, tf, fl1, fl2⟩, fi⟩ := erFn_ok h2 e rfl
  have T : ErrC P K mg C f cc F "LookupError" "LookupError.__new__" "LookupError.__init__" [.type "LookupError", .type "Exception", .type "BaseException", .type "object"] := ⟨ox, ncl, cell, fn, code, ⟨_, _, _, _, _, _, fl1, fl2, by rw [hf]; exact beq_self_eq_true _⟩, by rw [n3]; exact ⟨_, rfl, rfl⟩, su, ht, opq, ini, isb, sub, by rw [n5]; rfl, by rw [n5]; rfl, by rw [n5]; rfl, by rw [n5]; rfl⟩
  obtain ⟨od, sl, doc, pm, ctv, ho⟩ := fn
  have ty : PySem.W.typeIn K (.ref f) = some (.type "function") := by show (List.lookup f K).map (·.cls) = _; rw [ho]; rfl
  obtain ⟨Fn, Fq, Fp, Fb, Fs, Fcl, Fc⟩ := F
  dsimp only at n1 n2 n3 n4 n5 ncl
  subst n1 n2 n3 n4 n5 ncl
  have sc : NScope ["self", "step", "__class__"] ["self", "step"] ["__class__"] er_UnknownStep.scope := nscope_by (by decide +kernel)
  have hb : er_UnknownStep.body = [.Assign [.Tuple (.Attribute (.Name "self" _) "code" _ :: [.Attribute (.Name "self" _) "step" _]) _ _] (.Tuple (.Constant (.str "UnknownStep") _ _ :: [.Name "step" _]) _ _) _, .Expr (.Call (.Attribute (.Call (.Name "super" _) [] [] _) "__init__" _) [.Name "step" _] [] _) _] := rfl
  have FK := err_fn (CX := L2.CX P w) (w := w) (base := base) (k := 0) (N := ["self", "step", "__class__"]) (ps := ["self", "step"]) (xs := ["step"]) (code := "UnknownStep") T ⟨_, _, _, ho⟩ sc rfl rfl hb (.cons .nil) (.cons rfl rfl (by decide) (by decide) .nil) rfl (.cons rfl rfl (by decide) (by decide) .nil) rfl (by decide) (findB_ok (K := K) (C := C) (by assumption)) (fun _ => rfl) (fun _ => rfl) (fun _ => rfl) (fun _ => rfl) (fun _ => rfl) (fun _ => .inr ⟨_, _, rfl, rfl⟩) (fun _ => by exact sup_eval rfl rfl) (fun _ => rfl)
  exact ⟨gl, f, _, ["self", "step"], "LookupError", "LookupError.__new__", "LookupError.__init__", [.type "LookupError", .type "Exception", .type "BaseException", .type "object"], ox, fi, ty, FK, ⟨fun s u ws _ hl => .of_eq (match ws, hl with | [_], _ => rfl)⟩⟩
theorem ik_Unsent_message {P : Program} {w : World} {K : PySem.W.Frag} {mg : Str → Option Value} {base : Heap} {C f : Addr} {file : Str} (hf : P.main.file = file) (ht : (P.main.scope.names.lookup ("super" : Str)).isSome = false) (gl : mg "Unsent" = some (.ref C)) (su : mg "super" = none) (h1 : erClB K C "ValueError" "ValueError.__new__" "ValueError.__init__" [.type "ValueError", .type "Exception", .type "BaseException", .type "object"] = true) (h2 : erFnB K C f "Unsent.__init__" file = true) (hN : findB K C ("code" :: ["message"]) = true) (e : erObs K f = er_Unsent.val) : ErK P w K mg base 1 "Unsent" "Unsent" ["message"] C ["message"] [0] := by
  obtain ⟨ox, opq, ini, isb, sub⟩ := erCl_ok erb_value h1
  obtain ⟨cc, F, n1, n2, n3, n4, n5, ncl, cell, fn, code, ⟨ccl, cdd, vs, ccs, tf, fl1, fl2⟩, fi⟩ := erFn_ok h2 e rfl
  have T : ErrC P K mg C f cc F "ValueError" "ValueError.__new__" "ValueError.__init__" [.type "ValueError", .type "Exception", .type "BaseException", .type "object"] := ⟨ox, ncl, cell, fn, code, ⟨_, _, _, _, _, _, fl1, fl2, by rw [hf]; exact beq_self_eq_true _⟩, by rw [n3]; exact ⟨_, rfl, rfl⟩, su, ht, opq, ini, isb, sub, by rw [n5]; rfl, by rw [n5]; rfl, by rw [n5]; rfl, by rw [n5]; rfl⟩
  obtain ⟨od, sl, doc, pm, ctv, ho⟩ := fn
  have ty : PySem.W.typeIn K (.ref f) = some (.type "function") := by show (List.lookup f K).map (·.cls) = _; rw [ho]; rfl
  obtain ⟨Fn, Fq, Fp, Fb, Fs, Fcl, Fc⟩ := F
  dsimp only at n1 n2 n3 n4 n5 ncl
  subst n1 n2 n3 n4 n5 ncl
  have sc : NScope ["self", "message", "__class__"] ["self", "message"] ["__class__"] er_Unsent.scope := nscope_by (by decide +kernel)
  have hb : er_Unsent.body = [.Assign [.Tuple (.Attribute (.Name "self" _) "code" _ :: [.Attribute (.Name "self" _) "message" _]) _ _] (.Tuple (.Constant (.str "Unsent") _ _ :: [.Name "message" _]) _ _) _, .Expr (.Call (.Attribute (.Call (.Name "super" _) [] [] _) "__init__" _) [.Name "message" _] [] _) _] := rfl
  have FK := err_fn (CX := L2.CX P w) (w := w) (base := base) (k := 0) (N := ["self", "message", "__class__"]) (ps := ["self", "message"]) (xs := ["message"]) (code := "Unsent") T ⟨_, _, _, ho⟩ sc rfl rfl hb (.cons .nil) (.cons rfl rfl (by decide) (by decide) .nil) rfl (.cons rfl rfl (by decide) (by decide) .nil) rfl (by decide) (findB_ok (K := K) (C := C) (by assumption)) (fun _ => rfl) (fun _ => rfl) (fun _ => rfl) (fun _ => rfl) (fun _ => rfl) (fun _ => .inr ⟨_, _, rfl, rfl⟩) (fun _ => by exact sup_eval rfl rfl) (fun _ => rfl)
  exact ⟨gl, f, _, ["self", "message"], "ValueError", "ValueError.__new__", "ValueError.__init__", [.type "ValueError", .type "Exception", .type "BaseException", .type "object"], ox, fi, ty, FK, ⟨fun s u ws _ hl => .of_eq (match ws, hl with | [_], _ => rfl)⟩⟩
end TM
noncomputable section
namespace HandSHeadRun
open PySem PySem.W PySem.Calls PyProof.Rows
abbrev runS (r : OpenRow) (M : Nat) (w : World) (os : OsState) : Option SharedT := endF (stepQ (denQ tabQ) r.prog w) M r.prog w os
def LookA (r : OpenRow) (M : Nat) (w : World) : Prop := ∀ os : OsState, (runS r M w os).map (fun s => looksF r.prog (boot_heap w.params) s.abs) = some true
def LookB (r : OpenRow) (q : Program) (M : Nat) (loose : List PySem.Str) (w : World) : Prop := ∀ os : OsState, (runS r M w os).map (fun s => seenQ q loose (importedModules r.prog.main.body) (fun s => xlAt q [] s && recOk r.toRowW.records s) s.abs) = some (openGood q loose)
def LookC (r : OpenRow) (H : Hook) (ob : SharedT → H.α) (M : Nat) (w : World) : Prop := ∀ os : OsState, (runS r M w os).map ob = some (H.val w)
theorem runEq_of {r : OpenRow} {q : Program} {H : Hook} {ob : SharedT → H.α} {M : Nat} {loose : List PySem.Str} {w : World} (h1 : LookA r M w) (h2 : LookB r q M loose w) (h3 : LookC r H ob M w) : RunEq r q H ob M loose w := by
  intro os
  have a := h1 os
  have b := h2 os
  have c := h3 os
  unfold runS at a b c
  cases e : endF (stepQ (denQ tabQ) r.prog w) M r.prog w os with
  | none => rw [e] at a; cases a
  | some s =>
    rw [e] at a b c
    rw [Option.map_some] at a b c ⊢
    rw [Option.some.inj a, Option.some.inj b, Option.some.inj c]
end HandSHeadRun
end
namespace TM
open PySem PySem.Spec PyProof.Rows L2
def ETL : Str → List Str := fun f => if f = "at" then ["InvalidRow", "InvalidClause", "Parted", "InvalidTests", "InvalidText", "InvalidCommand"] else if f = "block" then ["Uneven"] else if f = "code" then ["InvalidName", "InvalidRow", "DuplicateName", "InvalidStep", "DuplicateMessage", "Unsent", "Ring", "TooMany", "InvalidPoint", "InvalidMoment", "InvalidClause", "Parted", "UnlikeLogs", "EmptyLot", "InvalidNumber", "InvalidWeights", "Uneven", "InvalidTests", "InvalidText", "InvalidCommand", "Full", "InvalidLimit", "InvalidPage", "UnknownProcess", "UnknownStep", "UnknownName", "NothingLeft"] else if f = "index" then ["InvalidStep"] else if f = "limit" then ["Full"] else if f = "line" then ["InvalidPage"] else if f = "message" then ["DuplicateMessage", "Unsent"] else if f = "most" then ["TooMany"] else if f = "name" then ["DuplicateName", "UnknownProcess", "UnknownName"] else if f = "one" then ["Parted"] else if f = "other" then ["Parted"] else if f = "process" then ["InvalidStep", "Ring"] else if f = "step" then ["UnknownStep"] else if f = "subject" then ["TooMany"] else if f = "value" then ["InvalidName", "InvalidPoint", "InvalidMoment", "InvalidNumber", "InvalidLimit"] else []
def ALLE : List Str := ["InvalidName", "InvalidRow", "DuplicateName", "InvalidStep", "DuplicateMessage", "Unsent", "Ring", "TooMany", "InvalidPoint", "InvalidMoment", "InvalidClause", "Parted", "UnlikeLogs", "EmptyLot", "InvalidNumber", "InvalidWeights", "Uneven", "InvalidTests", "InvalidText", "InvalidCommand", "Full", "InvalidLimit", "InvalidPage", "UnknownProcess", "UnknownStep", "UnknownName", "NothingLeft"]
def belowL : Str → List Str := fun t => if t = "DuplicateMessage" then ["DuplicateMessage"] else if t = "DuplicateName" then ["DuplicateName"] else if t = "EmptyLot" then ["EmptyLot"] else if t = "Full" then ["Full"] else if t = "IndexError" then ["NothingLeft"] else if t = "InvalidClause" then ["InvalidClause"] else if t = "InvalidCommand" then ["InvalidCommand"] else if t = "InvalidLimit" then ["InvalidLimit"] else if t = "InvalidMoment" then ["InvalidMoment"] else if t = "InvalidName" then ["InvalidName"] else if t = "InvalidNumber" then ["InvalidNumber"] else if t = "InvalidPage" then ["InvalidPage"] else if t = "InvalidPoint" then ["InvalidPoint"] else if t = "InvalidRow" then ["InvalidRow"] else if t = "InvalidStep" then ["InvalidStep"] else if t = "InvalidTests" then ["InvalidTests"] else if t = "InvalidText" then ["InvalidText"] else if t = "InvalidWeights" then ["InvalidWeights"] else if t = "LogError" then ["InvalidName", "InvalidRow", "DuplicateName", "InvalidStep", "DuplicateMessage", "Unsent", "Ring", "TooMany", "InvalidPoint", "InvalidMoment", "InvalidClause", "Parted", "UnlikeLogs", "EmptyLot", "InvalidNumber", "InvalidWeights", "Uneven", "InvalidTests", "InvalidText", "InvalidCommand", "Full", "InvalidLimit", "InvalidPage"] else if t = "LookupError" then ["UnknownProcess", "UnknownStep", "UnknownName", "NothingLeft"] else if t = "Missing" then ["UnknownProcess", "UnknownStep", "UnknownName"] else if t = "NothingLeft" then ["NothingLeft"] else if t = "Parted" then ["Parted"] else if t = "Ring" then ["Ring"] else if t = "TooMany" then ["TooMany"] else if t = "Uneven" then ["Uneven"] else if t = "UnknownName" then ["UnknownName"] else if t = "UnknownProcess" then ["UnknownProcess"] else if t = "UnknownStep" then ["UnknownStep"] else if t = "UnlikeLogs" then ["UnlikeLogs"] else if t = "Unsent" then ["Unsent"] else if t = "ValueError" then ["InvalidName", "InvalidRow", "DuplicateName", "InvalidStep", "DuplicateMessage", "Unsent", "Ring", "TooMany", "InvalidPoint", "InvalidMoment", "InvalidClause", "Parted", "UnlikeLogs", "EmptyLot", "InvalidNumber", "InvalidWeights", "Uneven", "InvalidTests", "InvalidText", "InvalidCommand", "Full", "InvalidLimit", "InvalidPage"] else []
def isAL (t c : Str) : Bool := decide (c ∈ belowL t)
end TM
namespace TM
open PySem PySem.Spec PyProof.Rows L2
def dd__law_draw : He.DefD := ⟨("_law_draw", none), "_law_draw", "_law_draw", defArgs (top 32), defBody (top 32), defScope (top 32), [], []⟩
def dd__law_of : He.DefD := ⟨("_law_of", none), "_law_of", "_law_of", defArgs (top 33), defBody (top 33), defScope (top 33), [], []⟩
def dd__law_bag : He.DefD := ⟨("_law_bag", none), "_law_bag", "_law_bag", defArgs (top 31), defBody (top 31), defScope (top 31), [], []⟩
def dd__law_other_field : He.DefD := ⟨("_law_other_field", none), "_law_other_field", "_law_other_field", defArgs (top 36), defBody (top 36), defScope (top 36), [], []⟩
def dd__law_field : He.DefD := ⟨("_law_field", none), "_law_field", "_law_field", defArgs (top 35), defBody (top 35), defScope (top 35), [], []⟩
def dd__law_same : He.DefD := ⟨("_law_same", none), "_law_same", "_law_same", defArgs (top 34), defBody (top 34), defScope (top 34), [], []⟩
def dd__law_odd : He.DefD := ⟨("_law_odd", none), "_law_odd", "_law_odd", defArgs (top 37), defBody (top 37), defScope (top 37), [], []⟩
def dd__law_made_errors : He.DefD := ⟨("_law_made_errors", none), "_law_made_errors", "_law_made_errors", defArgs (top 38), defBody (top 38), defScope (top 38), [], []⟩
def dd__law_named_errors : He.DefD := ⟨("_law_named_errors", none), "_law_named_errors", "_law_named_errors", defArgs (top 39), defBody (top 39), defScope (top 39), [], []⟩
def dd__law_kinds_of : He.DefD := ⟨("_law_kinds_of", none), "_law_kinds_of", "_law_kinds_of", defArgs (top 40), defBody (top 40), defScope (top 40), [], []⟩
def dd__law_codes : He.DefD := ⟨("_law_codes", none), "_law_codes", "_law_codes", defArgs (top 41), defBody (top 41), defScope (top 41), [], []⟩
def dd_law : He.DefD := ⟨("law", none), "law", "law", defArgs (top 42), defBody (top 42), defScope (top 42), [], []⟩
def hfn : List He.DefD := [dd__law_draw, dd__law_of, dd__law_bag, dd__law_other_field, dd__law_field, dd__law_same, dd__law_odd, dd__law_made_errors, dd__law_named_errors, dd__law_kinds_of, dd__law_codes, dd_law]
def hcm : List He5.DefA := []
def hfa : List He.Fa := ([.glo "_law_draw", .glo "_law_of", .glo "_law_bag", .glo "_law_other_field", .glo "_law_field", .glo "_law_same", .glo "_law_odd", .glo "_law_made_errors", .glo "_law_named_errors", .glo "_law_kinds_of", .glo "_law_codes", .glo "law", .free "IndexError", .free "LookupError", .free "ValueError", .free "all", .free "bool", .free "enumerate", .free "int", .free "isinstance", .free "len", .free "list", .free "range", .free "str", .free "super", .free "tuple", .free "zip"] : List He.Fa)
def hts : List He.Tab := []
def htf : List He.Defn := []
abbrev HR : PySem.W.OpenRow := PySem.W.OpenLaw.row PySem.Challenge.rw_tiedmoments_k01_errors_by_themselves
def herrs : List Str := ["InvalidName", "InvalidRow", "DuplicateName", "InvalidStep", "DuplicateMessage", "Unsent", "Ring", "TooMany", "InvalidPoint", "InvalidMoment", "InvalidClause", "Parted", "UnlikeLogs", "EmptyLot", "InvalidNumber", "InvalidWeights", "Uneven", "InvalidTests", "InvalidText", "InvalidCommand", "Full", "InvalidLimit", "InvalidPage", "UnknownProcess", "UnknownStep", "UnknownName", "NothingLeft", "LogError", "Missing"]
def hall (K : PySem.W.Frag) : Bool := herrs.all fun c => (He.Fa.glo c).ok K
def hfile : Str := PySem.Challenge.pw_tiedmoments_k01_errors_by_themselves.main.file
def hex (K : PySem.W.Frag) : Bool := (hall K &&
  (erClB K (He.ga K "InvalidName") "ValueError" "ValueError.__new__" "ValueError.__init__" [.type "ValueError", .type "Exception", .type "BaseException", .type "object"] &&
  (erFnB K (He.ga K "InvalidName") (He.ma K (He.ga K "InvalidName") "__init__") "InvalidName.__init__" hfile &&
  (findB K (He.ga K "InvalidName") ("code" :: ["value"]) &&
  (erClB K (He.ga K "InvalidRow") "ValueError" "ValueError.__new__" "ValueError.__init__" [.type "ValueError", .type "Exception", .type "BaseException", .type "object"] &&
  (erFnB K (He.ga K "InvalidRow") (He.ma K (He.ga K "InvalidRow") "__init__") "InvalidRow.__init__" hfile &&
  (findB K (He.ga K "InvalidRow") ("code" :: ["at"]) &&
  (erClB K (He.ga K "DuplicateName") "ValueError" "ValueError.__new__" "ValueError.__init__" [.type "ValueError", .type "Exception", .type "BaseException", .type "object"] &&
  (erFnB K (He.ga K "DuplicateName") (He.ma K (He.ga K "DuplicateName") "__init__") "DuplicateName.__init__" hfile &&
  (findB K (He.ga K "DuplicateName") ("code" :: ["name"]) &&
  (erClB K (He.ga K "InvalidStep") "ValueError" "ValueError.__new__" "ValueError.__init__" [.type "ValueError", .type "Exception", .type "BaseException", .type "object"] &&
  (erFnB K (He.ga K "InvalidStep") (He.ma K (He.ga K "InvalidStep") "__init__") "InvalidStep.__init__" hfile &&
  (findB K (He.ga K "InvalidStep") ("code" :: ["process", "index"]) &&
  (erClB K (He.ga K "DuplicateMessage") "ValueError" "ValueError.__new__" "ValueError.__init__" [.type "ValueError", .type "Exception", .type "BaseException", .type "object"] &&
  (erFnB K (He.ga K "DuplicateMessage") (He.ma K (He.ga K "DuplicateMessage") "__init__") "DuplicateMessage.__init__" hfile &&
  (findB K (He.ga K "DuplicateMessage") ("code" :: ["message"]) &&
  (erClB K (He.ga K "Unsent") "ValueError" "ValueError.__new__" "ValueError.__init__" [.type "ValueError", .type "Exception", .type "BaseException", .type "object"] &&
  (erFnB K (He.ga K "Unsent") (He.ma K (He.ga K "Unsent") "__init__") "Unsent.__init__" hfile &&
  (findB K (He.ga K "Unsent") ("code" :: ["message"]) &&
  (erClB K (He.ga K "Ring") "ValueError" "ValueError.__new__" "ValueError.__init__" [.type "ValueError", .type "Exception", .type "BaseException", .type "object"] &&
  (erFnB K (He.ga K "Ring") (He.ma K (He.ga K "Ring") "__init__") "Ring.__init__" hfile &&
  (findB K (He.ga K "Ring") ("code" :: ["process"]) &&
  (erClB K (He.ga K "TooMany") "ValueError" "ValueError.__new__" "ValueError.__init__" [.type "ValueError", .type "Exception", .type "BaseException", .type "object"] &&
  (erFnB K (He.ga K "TooMany") (He.ma K (He.ga K "TooMany") "__init__") "TooMany.__init__" hfile &&
  (findB K (He.ga K "TooMany") ("code" :: ["subject", "most"]) &&
  (erClB K (He.ga K "InvalidPoint") "ValueError" "ValueError.__new__" "ValueError.__init__" [.type "ValueError", .type "Exception", .type "BaseException", .type "object"] &&
  (erFnB K (He.ga K "InvalidPoint") (He.ma K (He.ga K "InvalidPoint") "__init__") "InvalidPoint.__init__" hfile &&
  (findB K (He.ga K "InvalidPoint") ("code" :: ["value"]) &&
  (erClB K (He.ga K "InvalidMoment") "ValueError" "ValueError.__new__" "ValueError.__init__" [.type "ValueError", .type "Exception", .type "BaseException", .type "object"] &&
  (erFnB K (He.ga K "InvalidMoment") (He.ma K (He.ga K "InvalidMoment") "__init__") "InvalidMoment.__init__" hfile &&
  (findB K (He.ga K "InvalidMoment") ("code" :: ["value"]) &&
  (erClB K (He.ga K "InvalidClause") "ValueError" "ValueError.__new__" "ValueError.__init__" [.type "ValueError", .type "Exception", .type "BaseException", .type "object"] &&
  (erFnB K (He.ga K "InvalidClause") (He.ma K (He.ga K "InvalidClause") "__init__") "InvalidClause.__init__" hfile &&
  (findB K (He.ga K "InvalidClause") ("code" :: ["at"]) &&
  (erClB K (He.ga K "Parted") "ValueError" "ValueError.__new__" "ValueError.__init__" [.type "ValueError", .type "Exception", .type "BaseException", .type "object"] &&
  (erFnB K (He.ga K "Parted") (He.ma K (He.ga K "Parted") "__init__") "Parted.__init__" hfile &&
  (findB K (He.ga K "Parted") ("code" :: ["at", "one", "other"]) &&
  (erClB K (He.ga K "UnlikeLogs") "ValueError" "ValueError.__new__" "ValueError.__init__" [.type "ValueError", .type "Exception", .type "BaseException", .type "object"] &&
  (erFnB K (He.ga K "UnlikeLogs") (He.ma K (He.ga K "UnlikeLogs") "__init__") "UnlikeLogs.__init__" hfile &&
  (findB K (He.ga K "UnlikeLogs") ("code" :: []) &&
  (erClB K (He.ga K "EmptyLot") "ValueError" "ValueError.__new__" "ValueError.__init__" [.type "ValueError", .type "Exception", .type "BaseException", .type "object"] &&
  (erFnB K (He.ga K "EmptyLot") (He.ma K (He.ga K "EmptyLot") "__init__") "EmptyLot.__init__" hfile &&
  (findB K (He.ga K "EmptyLot") ("code" :: []) &&
  (erClB K (He.ga K "InvalidNumber") "ValueError" "ValueError.__new__" "ValueError.__init__" [.type "ValueError", .type "Exception", .type "BaseException", .type "object"] &&
  (erFnB K (He.ga K "InvalidNumber") (He.ma K (He.ga K "InvalidNumber") "__init__") "InvalidNumber.__init__" hfile &&
  (findB K (He.ga K "InvalidNumber") ("code" :: ["value"]) &&
  (erClB K (He.ga K "InvalidWeights") "ValueError" "ValueError.__new__" "ValueError.__init__" [.type "ValueError", .type "Exception", .type "BaseException", .type "object"] &&
  (erFnB K (He.ga K "InvalidWeights") (He.ma K (He.ga K "InvalidWeights") "__init__") "InvalidWeights.__init__" hfile &&
  (findB K (He.ga K "InvalidWeights") ("code" :: []) &&
  (erClB K (He.ga K "Uneven") "ValueError" "ValueError.__new__" "ValueError.__init__" [.type "ValueError", .type "Exception", .type "BaseException", .type "object"] &&
  (erFnB K (He.ga K "Uneven") (He.ma K (He.ga K "Uneven") "__init__") "Uneven.__init__" hfile &&
  (findB K (He.ga K "Uneven") ("code" :: ["block"]) &&
  (erClB K (He.ga K "InvalidTests") "ValueError" "ValueError.__new__" "ValueError.__init__" [.type "ValueError", .type "Exception", .type "BaseException", .type "object"] &&
  (erFnB K (He.ga K "InvalidTests") (He.ma K (He.ga K "InvalidTests") "__init__") "InvalidTests.__init__" hfile &&
  (findB K (He.ga K "InvalidTests") ("code" :: ["at"]) &&
  (erClB K (He.ga K "InvalidText") "ValueError" "ValueError.__new__" "ValueError.__init__" [.type "ValueError", .type "Exception", .type "BaseException", .type "object"] &&
  (erFnB K (He.ga K "InvalidText") (He.ma K (He.ga K "InvalidText") "__init__") "InvalidText.__init__" hfile &&
  (findB K (He.ga K "InvalidText") ("code" :: ["at"]) &&
  (erClB K (He.ga K "InvalidCommand") "ValueError" "ValueError.__new__" "ValueError.__init__" [.type "ValueError", .type "Exception", .type "BaseException", .type "object"] &&
  (erFnB K (He.ga K "InvalidCommand") (He.ma K (He.ga K "InvalidCommand") "__init__") "InvalidCommand.__init__" hfile &&
  (findB K (He.ga K "InvalidCommand") ("code" :: ["at"]) &&
  (erClB K (He.ga K "Full") "ValueError" "ValueError.__new__" "ValueError.__init__" [.type "ValueError", .type "Exception", .type "BaseException", .type "object"] &&
  (erFnB K (He.ga K "Full") (He.ma K (He.ga K "Full") "__init__") "Full.__init__" hfile &&
  (findB K (He.ga K "Full") ("code" :: ["limit"]) &&
  (erClB K (He.ga K "InvalidLimit") "ValueError" "ValueError.__new__" "ValueError.__init__" [.type "ValueError", .type "Exception", .type "BaseException", .type "object"] &&
  (erFnB K (He.ga K "InvalidLimit") (He.ma K (He.ga K "InvalidLimit") "__init__") "InvalidLimit.__init__" hfile &&
  (findB K (He.ga K "InvalidLimit") ("code" :: ["value"]) &&
  (erClB K (He.ga K "InvalidPage") "ValueError" "ValueError.__new__" "ValueError.__init__" [.type "ValueError", .type "Exception", .type "BaseException", .type "object"] &&
  (erFnB K (He.ga K "InvalidPage") (He.ma K (He.ga K "InvalidPage") "__init__") "InvalidPage.__init__" hfile &&
  (findB K (He.ga K "InvalidPage") ("code" :: ["line"]) &&
  (erClB K (He.ga K "UnknownProcess") "LookupError" "LookupError.__new__" "LookupError.__init__" [.type "LookupError", .type "Exception", .type "BaseException", .type "object"] &&
  (erFnB K (He.ga K "UnknownProcess") (He.ma K (He.ga K "UnknownProcess") "__init__") "UnknownProcess.__init__" hfile &&
  (findB K (He.ga K "UnknownProcess") ("code" :: ["name"]) &&
  (erClB K (He.ga K "UnknownStep") "LookupError" "LookupError.__new__" "LookupError.__init__" [.type "LookupError", .type "Exception", .type "BaseException", .type "object"] &&
  (erFnB K (He.ga K "UnknownStep") (He.ma K (He.ga K "UnknownStep") "__init__") "UnknownStep.__init__" hfile &&
  (findB K (He.ga K "UnknownStep") ("code" :: ["step"]) &&
  (erClB K (He.ga K "UnknownName") "LookupError" "LookupError.__new__" "LookupError.__init__" [.type "LookupError", .type "Exception", .type "BaseException", .type "object"] &&
  (erFnB K (He.ga K "UnknownName") (He.ma K (He.ga K "UnknownName") "__init__") "UnknownName.__init__" hfile &&
  (findB K (He.ga K "UnknownName") ("code" :: ["name"]) &&
  (erClB K (He.ga K "NothingLeft") "IndexError" "IndexError.__new__" "IndexError.__init__" [.type "IndexError", .type "LookupError", .type "Exception", .type "BaseException", .type "object"] &&
  (erFnB K (He.ga K "NothingLeft") (He.ma K (He.ga K "NothingLeft") "__init__") "NothingLeft.__init__" hfile &&
  (findB K (He.ga K "NothingLeft") ("code" :: []) &&
  (efB K (He.ga K) (ETL "at") "at" &&
  (efB K (He.ga K) (ETL "block") "block" &&
  (efB K (He.ga K) (ETL "code") "code" &&
  (efB K (He.ga K) (ETL "index") "index" &&
  (efB K (He.ga K) (ETL "limit") "limit" &&
  (efB K (He.ga K) (ETL "line") "line" &&
  (efB K (He.ga K) (ETL "message") "message" &&
  (efB K (He.ga K) (ETL "most") "most" &&
  (efB K (He.ga K) (ETL "name") "name" &&
  (efB K (He.ga K) (ETL "one") "one" &&
  (efB K (He.ga K) (ETL "other") "other" &&
  (efB K (He.ga K) (ETL "process") "process" &&
  (efB K (He.ga K) (ETL "step") "step" &&
  (efB K (He.ga K) (ETL "subject") "subject" &&
  (efB K (He.ga K) (ETL "value") "value" &&
  (ieB K (He.ga K) ALLE isAL ["DuplicateMessage", "DuplicateName", "EmptyLot", "Full", "InvalidClause", "InvalidCommand", "InvalidLimit", "InvalidMoment", "InvalidName", "InvalidNumber", "InvalidPage", "InvalidPoint", "InvalidRow", "InvalidStep", "InvalidTests", "InvalidText", "InvalidWeights", "LogError", "Missing", "NothingLeft", "Parted", "Ring", "TooMany", "Uneven", "UnknownName", "UnknownProcess", "UnknownStep", "UnlikeLogs", "Unsent"] ["IndexError", "LookupError", "ValueError"] &&
  true))))))))))))))))))))))))))))))))))))))))))))))))))))))))))))))))))))))))))))))))))))))))))))))))))
def her : List ErD := [er_InvalidName, er_InvalidRow, er_DuplicateName, er_InvalidStep, er_DuplicateMessage, er_Unsent, er_Ring, er_TooMany, er_InvalidPoint, er_InvalidMoment, er_InvalidClause, er_Parted, er_UnlikeLogs, er_EmptyLot, er_InvalidNumber, er_InvalidWeights, er_Uneven, er_InvalidTests, er_InvalidText, er_InvalidCommand, er_Full, er_InvalidLimit, er_InvalidPage, er_UnknownProcess, er_UnknownStep, er_UnknownName, er_NothingLeft]
abbrev hhk : PySem.W.Hook := hookW 4 hfa hfn hts htf hex her hcm
def hob (s : PySem.W.SharedT) : AlW := obsW 4 hfa hfn hts htf hex her hcm (HandSHeadRun.getT s)
theorem hob_eq (s : PySem.W.SharedT) : hob s = hhk.obs s.abs := obsW_eq (HandSHeadRun.getT_eq s)
def hloose : List Str := (["__name__", "LogError", "InvalidName", "InvalidRow", "DuplicateName", "InvalidStep", "DuplicateMessage", "Unsent", "Ring", "TooMany", "InvalidPoint", "InvalidMoment", "InvalidClause", "Parted", "UnlikeLogs", "EmptyLot", "InvalidNumber", "InvalidWeights", "Uneven", "InvalidTests", "InvalidText", "InvalidCommand", "Full", "InvalidLimit", "InvalidPage", "Missing", "UnknownProcess", "UnknownStep", "UnknownName", "NothingLeft"] : List Str) ++ (["_law_bag", "_law_draw", "_law_of", "_law_same", "_law_field", "_law_other_field", "_law_odd", "_law_made_errors", "_law_named_errors", "_law_kinds_of", "_law_codes"] : List Str)
theorem hrunAF (w : World) : HandSHeadRun.LookA HR 40000 (w.withFollow "special-get-raises" false) := by
  intro os
  kernel_rfl
theorem hrunBF (w : World) : HandSHeadRun.LookB HR (PySem.W.view HR.prog [42]) 40000 hloose (w.withFollow "special-get-raises" false) := by
  intro os
  kernel_rfl
theorem hrunCF (w : World) : HandSHeadRun.LookC HR hhk hob 40000 (w.withFollow "special-get-raises" false) := by
  intro os
  kernel_rfl
theorem hrunAT (w : World) : HandSHeadRun.LookA HR 40000 (w.withFollow "special-get-raises" true) := by
  intro os
  kernel_rfl
theorem hrunBT (w : World) : HandSHeadRun.LookB HR (PySem.W.view HR.prog [42]) 40000 hloose (w.withFollow "special-get-raises" true) := by
  intro os
  kernel_rfl
theorem hrunCT (w : World) : HandSHeadRun.LookC HR hhk hob 40000 (w.withFollow "special-get-raises" true) := by
  intro os
  kernel_rfl
theorem hrun (w : World) : HandSHeadRun.RunEq HR (PySem.W.view HR.prog [42]) hhk hob 40000 hloose w := PySem.W.byRow2 "special-get-raises" (P := fun w => HandSHeadRun.RunEq HR (PySem.W.view HR.prog [42]) hhk hob 40000 hloose w) (fun w => HandSHeadRun.runEq_of (hrunAF w) (hrunBF w) (hrunCF w)) (fun w => HandSHeadRun.runEq_of (hrunAT w) (hrunBT w) (hrunCT w)) w
end TM
namespace TM
open PySem PySem.Spec PyProof.Rows L2
open LamX
structure Tx (mg : Str → Option Value) : Prop where
  f_IndexError : mg "IndexError" = none
  f_LookupError : mg "LookupError" = none
  f_ValueError : mg "ValueError" = none
  f_all : mg "all" = none
  f_bool : mg "bool" = none
  f_enumerate : mg "enumerate" = none
  f_int : mg "int" = none
  f_isinstance : mg "isinstance" = none
  f_len : mg "len" = none
  f_list : mg "list" = none
  f_range : mg "range" = none
  f_str : mg "str" = none
  f_tuple : mg "tuple" = none
  f_zip : mg "zip" = none
section
variable {P : Program} {w : World} {K : PySem.W.Frag} {mg : Str → Option Value} {base : Heap}
theorem sc__law_other_field : FnScope ["_law_e"] ["_law_e"] (defScope (top 36)) := ⟨rfl, rfl, rfl, by decide +kernel, rfl, by decide +kernel, by decide +kernel⟩
def g_z01_law_other_field : Rn → Fr Out := (gSeq (gIf (fB (f2 sEq (f1 (sEFld (ETL "code") "code") (fVar 0)) (fC (.str "Ring")))) (gRet (fTup (fCons (f1 (sEFld (ETL "process") "process") (fVar 0)) fNil))) gPass) (gSeq (gIf (fB (f2 sEq (f1 (sEFld (ETL "code") "code") (fVar 0)) (fC (.str "TooMany")))) (gRet (fTup (fCons (f1 (sEFld (ETL "subject") "subject") (fVar 0)) (fCons (f1 (sEFld (ETL "most") "most") (fVar 0)) fNil)))) gPass) (gSeq (gIf (fB (f2 sEq (f1 (sEFld (ETL "code") "code") (fVar 0)) (fC (.str "Uneven")))) (gRet (fTup (fCons (f1 (sEFld (ETL "block") "block") (fVar 0)) fNil))) gPass) (gSeq (gIf (fB (f2 sEq (f1 (sEFld (ETL "code") "code") (fVar 0)) (fC (.str "UnknownStep")))) (gRet (fTup (fCons (f1 (sEFld (ETL "step") "step") (fVar 0)) fNil))) gPass) (gSeq (gIf (fB (f2 sEq (f1 (sEFld (ETL "code") "code") (fVar 0)) (fC (.str "Full")))) (gRet (fTup (fCons (f1 (sEFld (ETL "limit") "limit") (fVar 0)) fNil))) gPass) (gRet (fIf (fB (f2 sEq (f1 (sEFld (ETL "code") "code") (fVar 0)) (fC (.str "InvalidPage")))) (fTup (fCons (f1 (sEFld (ETL "line") "line") (fVar 0)) fNil)) (fTup fNil))))))))
def S_z01_law_other_field : List Sl → Fr Sl := fnSem 1 g_z01_law_other_field
theorem ok__law_other_field {f : Addr} {fd : FuncData} (T : Tx mg) (F : FnP K "_law_other_field" (top 36) f fd)  (EF_block : EFok K mg (ETL "block") "block") (EF_code : EFok K mg (ETL "code") "code") (EF_limit : EFok K mg (ETL "limit") "limit") (EF_line : EFok K mg (ETL "line") "line") (EF_most : EFok K mg (ETL "most") "most") (EF_process : EFok K mg (ETL "process") "process") (EF_step : EFok K mg (ETL "step") "step") (EF_subject : EFok K mg (ETL "subject") "subject") : FnOk P w K mg base (L2.CX P w) 1 f fd ["_law_e"] (spD ⟨K, mg⟩ 1 S_z01_law_other_field) :=
  fn_ok (N := ["_law_e"]) (ps := ["_law_e"]) (g := g_z01_law_other_field) F sc__law_other_field fun cdv A outer s H E hr => by exact (xb_cons (xs_if (xt_eq hr (xe_efld EF_code (xe_var 0)) xe_str) (xb_one (xs_ret (xe_tup (xa_cons (xe_efld EF_process (xe_var 0)) xa_nil)))) xb_nil') (xb_cons (xs_if (xt_eq hr (xe_efld EF_code (xe_var 0)) xe_str) (xb_one (xs_ret (xe_tup (xa_cons (xe_efld EF_subject (xe_var 0)) (xa_cons (xe_efld EF_most (xe_var 0)) xa_nil))))) xb_nil') (xb_cons (xs_if (xt_eq hr (xe_efld EF_code (xe_var 0)) xe_str) (xb_one (xs_ret (xe_tup (xa_cons (xe_efld EF_block (xe_var 0)) xa_nil)))) xb_nil') (xb_cons (xs_if (xt_eq hr (xe_efld EF_code (xe_var 0)) xe_str) (xb_one (xs_ret (xe_tup (xa_cons (xe_efld EF_step (xe_var 0)) xa_nil)))) xb_nil') (xb_cons (xs_if (xt_eq hr (xe_efld EF_code (xe_var 0)) xe_str) (xb_one (xs_ret (xe_tup (xa_cons (xe_efld EF_limit (xe_var 0)) xa_nil)))) xb_nil') (xb_one (xs_ret (xe_if (xt_eq hr (xe_efld EF_code (xe_var 0)) xe_str) (xe_tup (xa_cons (xe_efld EF_line (xe_var 0)) xa_nil)) (xe_tup xa_nil)))))))))
theorem sc__law_field : FnScope ["_law_e"] ["_law_e"] (defScope (top 35)) := ⟨rfl, rfl, rfl, by decide +kernel, rfl, by decide +kernel, by decide +kernel⟩
def g_z01_law_field : Rn → Fr Out := (gSeq (gIf (fB (f2 sIn (f1 (sEFld (ETL "code") "code") (fVar 0)) (fTup (fCons (fC (.str "InvalidName")) (fCons (fC (.str "InvalidPoint")) (fCons (fC (.str "InvalidMoment")) (fCons (fC (.str "InvalidNumber")) (fCons (fC (.str "InvalidLimit")) fNil)))))))) (gRet (fTup (fCons (f1 (sEFld (ETL "value") "value") (fVar 0)) fNil))) gPass) (gSeq (gIf (fB (f2 sIn (f1 (sEFld (ETL "code") "code") (fVar 0)) (fTup (fCons (fC (.str "InvalidRow")) (fCons (fC (.str "InvalidClause")) (fCons (fC (.str "InvalidTests")) (fCons (fC (.str "InvalidText")) (fCons (fC (.str "InvalidCommand")) fNil)))))))) (gRet (fTup (fCons (f1 (sEFld (ETL "at") "at") (fVar 0)) fNil))) gPass) (gSeq (gIf (fB (f2 sIn (f1 (sEFld (ETL "code") "code") (fVar 0)) (fTup (fCons (fC (.str "DuplicateName")) (fCons (fC (.str "UnknownProcess")) (fCons (fC (.str "UnknownName")) fNil)))))) (gRet (fTup (fCons (f1 (sEFld (ETL "name") "name") (fVar 0)) fNil))) gPass) (gSeq (gIf (fB (f2 sIn (f1 (sEFld (ETL "code") "code") (fVar 0)) (fTup (fCons (fC (.str "DuplicateMessage")) (fCons (fC (.str "Unsent")) fNil))))) (gRet (fTup (fCons (f1 (sEFld (ETL "message") "message") (fVar 0)) fNil))) gPass) (gSeq (gIf (fB (f2 sEq (f1 (sEFld (ETL "code") "code") (fVar 0)) (fC (.str "InvalidStep")))) (gRet (fTup (fCons (f1 (sEFld (ETL "process") "process") (fVar 0)) (fCons (f1 (sEFld (ETL "index") "index") (fVar 0)) fNil)))) gPass) (gSeq (gIf (fB (f2 sEq (f1 (sEFld (ETL "code") "code") (fVar 0)) (fC (.str "Parted")))) (gRet (fTup (fCons (f1 (sEFld (ETL "at") "at") (fVar 0)) (fCons (f1 (sEFld (ETL "one") "one") (fVar 0)) (fCons (f1 (sEFld (ETL "other") "other") (fVar 0)) fNil))))) gPass) (gRet (fCall 1 S_z01_law_other_field (fCons (fVar 0) fNil)))))))))
def S_z01_law_field : List Sl → Fr Sl := fnSem 1 g_z01_law_field
theorem ok__law_field {f : Addr} {fd : FuncData} (T : Tx mg) (F : FnP K "_law_field" (top 35) f fd)  {f__law_other_field : Addr} {fd__law_other_field : FuncData} (D__law_other_field : Df P w K mg base 1 "_law_other_field" ["_law_e"] 1 S_z01_law_other_field f__law_other_field fd__law_other_field) (EF_at : EFok K mg (ETL "at") "at") (EF_code : EFok K mg (ETL "code") "code") (EF_index : EFok K mg (ETL "index") "index") (EF_message : EFok K mg (ETL "message") "message") (EF_name : EFok K mg (ETL "name") "name") (EF_one : EFok K mg (ETL "one") "one") (EF_other : EFok K mg (ETL "other") "other") (EF_process : EFok K mg (ETL "process") "process") (EF_value : EFok K mg (ETL "value") "value") : FnOk P w K mg base (L2.CX P w) 2 f fd ["_law_e"] (spD ⟨K, mg⟩ 1 S_z01_law_field) :=
  fn_ok (N := ["_law_e"]) (ps := ["_law_e"]) (g := g_z01_law_field) F sc__law_field fun cdv A outer s H E hr => by exact (xb_cons (xs_if (xt_in hr (xe_efld EF_code (xe_var 0)) (xe_tup (xa_cons xe_str (xa_cons xe_str (xa_cons xe_str (xa_cons xe_str (xa_cons xe_str xa_nil))))))) (xb_one (xs_ret (xe_tup (xa_cons (xe_efld EF_value (xe_var 0)) xa_nil)))) xb_nil') (xb_cons (xs_if (xt_in hr (xe_efld EF_code (xe_var 0)) (xe_tup (xa_cons xe_str (xa_cons xe_str (xa_cons xe_str (xa_cons xe_str (xa_cons xe_str xa_nil))))))) (xb_one (xs_ret (xe_tup (xa_cons (xe_efld EF_at (xe_var 0)) xa_nil)))) xb_nil') (xb_cons (xs_if (xt_in hr (xe_efld EF_code (xe_var 0)) (xe_tup (xa_cons xe_str (xa_cons xe_str (xa_cons xe_str xa_nil))))) (xb_one (xs_ret (xe_tup (xa_cons (xe_efld EF_name (xe_var 0)) xa_nil)))) xb_nil') (xb_cons (xs_if (xt_in hr (xe_efld EF_code (xe_var 0)) (xe_tup (xa_cons xe_str (xa_cons xe_str xa_nil)))) (xb_one (xs_ret (xe_tup (xa_cons (xe_efld EF_message (xe_var 0)) xa_nil)))) xb_nil') (xb_cons (xs_if (xt_eq hr (xe_efld EF_code (xe_var 0)) xe_str) (xb_one (xs_ret (xe_tup (xa_cons (xe_efld EF_process (xe_var 0)) (xa_cons (xe_efld EF_index (xe_var 0)) xa_nil))))) xb_nil') (xb_cons (xs_if (xt_eq hr (xe_efld EF_code (xe_var 0)) xe_str) (xb_one (xs_ret (xe_tup (xa_cons (xe_efld EF_at (xe_var 0)) (xa_cons (xe_efld EF_one (xe_var 0)) (xa_cons (xe_efld EF_other (xe_var 0)) xa_nil)))))) xb_nil') (xb_one (xs_ret (xe_call (takes_of rfl rfl rfl rfl) D__law_other_field (hr.mono (by decide)) (xa_cons (xe_var 0) xa_nil))))))))))
theorem sc__law_same : FnScope ["_law_found", "_law_due", "_law_one_y", "_law_two"] ["_law_found", "_law_due"] (defScope (top 34)) := ⟨rfl, rfl, rfl, by decide +kernel, rfl, by decide +kernel, by decide +kernel⟩
theorem step__law_same {f : Addr} {fd : FuncData} {k : Nat} {R : List Sl → Fr Sl} (T : Tx mg) (F : FnP K "_law_same" (top 34) f fd) (D__law_same : Df P w K mg base k "_law_same" ["_law_found", "_law_due"] 2 R f fd) : FnOk P w K mg base (L2.CX P w) (k + 1) f fd ["_law_found", "_law_due"] (spD ⟨K, mg⟩ 2 (fnSem 4 (g__law_same R))) :=
  fn_ok F sc__law_same fun cdv A outer s H E hr => by exact (xb_cons (xs_if (xt_w (xw_or (xt_isN (xe_var 1) xe_non) (xw_or1 (xt_isN (xe_var 0) xe_non)))) (xb_one (xs_ret (xe_and (xe_isN (xe_var 1) xe_non) (xe_one (xe_isN (xe_var 0) xe_non))))) xb_nil') (xb_cons (xs_if (xt_val (xe_isi2 .list .tuple T.f_isinstance T.f_list (by decide +kernel) T.f_tuple (by decide +kernel) (xe_var 1))) (xb_cons (xs_if (xt_w (xw_or (xt_ne hr (xe_isi .list T.f_isinstance T.f_list (by decide +kernel) (xe_var 0)) (xe_isi .list T.f_isinstance T.f_list (by decide +kernel) (xe_var 1))) (xw_or1 (xt_ne hr (xe_isi .tuple T.f_isinstance T.f_tuple (by decide +kernel) (xe_var 0)) (xe_isi .tuple T.f_isinstance T.f_tuple (by decide +kernel) (xe_var 1)))))) (xb_one (xs_ret xe_bl)) xb_nil') (xb_one (xs_ret (xe_and (xe_eq hr (xe_len T.f_len (xe_var 0)) (xe_len T.f_len (xe_var 1))) (xe_one (xe_all rfl T.f_all (by decide +kernel) (xe_lc [("_law_one_y", 2), ("_law_two", 3)] rfl sc__law_same.nd (xi_zip T.f_zip (xe_var 0) (xe_var 1)) (blkOk_by (N := ["_law_found", "_law_due", "_law_one_y", "_law_two"]) (sc := defScope (top 34)) (by decide +kernel)) (fun _ _ _ _ _ => (xg_tup rfl (xgs_cons (xg_nm sc__law_same.nd) (xgs_cons (xg_nm sc__law_same.nd) xgs_nil)))) (fun _ _ _ _ _ => xts_nil) (fun _ _ _ _ _ => (xe_call takes0 D__law_same hr (xa_cons (xe_var 2) (xa_cons (xe_var 3) xa_nil))))))))))) xb_nil') (xb_cons (xs_if (xt_w (xw_or (xt_ne hr (xe_isi .bool T.f_isinstance T.f_bool (by decide +kernel) (xe_var 0)) (xe_isi .bool T.f_isinstance T.f_bool (by decide +kernel) (xe_var 1))) (xw_or1 (xt_ne hr (xe_isi .int T.f_isinstance T.f_int (by decide +kernel) (xe_var 0)) (xe_isi .int T.f_isinstance T.f_int (by decide +kernel) (xe_var 1)))))) (xb_one (xs_ret xe_bl)) xb_nil') (xb_one (xs_ret (xe_and (xe_eq hr (xe_isi .str T.f_isinstance T.f_str (by decide +kernel) (xe_var 0)) (xe_isi .str T.f_isinstance T.f_str (by decide +kernel) (xe_var 1))) (xe_one (xe_eq hr (xe_var 0) (xe_var 1)))))))))
theorem sc__law_odd : FnScope ["_law_bag_here", "_law_others"] ["_law_bag_here", "_law_others"] (defScope (top 37)) := ⟨rfl, rfl, rfl, by decide +kernel, rfl, by decide +kernel, by decide +kernel⟩
def g_z01_law_odd : Rn → Fr Out := (gRet (fCall 2 ofS (fCons (fVar 0) (fCons (f2 sAdd (fLst (fCons (fC .none) (fCons (fC (.bool true)) (fCons (fC (.bool false)) (fCons (fC (.str "")) (fCons (fC (.str "A")) (fCons (f1 sNeg (fC (.int 1))) (fCons (f2 sPow (fC (.int 10)) (fC (.int 6))) (fCons (fTup (fCons (fC (.int 1)) fNil)) (fCons (fLst (fCons (fC (.int 1)) fNil)) (fCons (fTup fNil) (fCons (fTup (fCons (fC (.int 0)) (fCons (fC (.bool true)) fNil))) (fCons (fC (.str "1")) fNil))))))))))))) (fVar 1)) fNil))))
def S_z01_law_odd : List Sl → Fr Sl := fnSem 2 g_z01_law_odd
theorem ok__law_odd {f : Addr} {fd : FuncData} (T : Tx mg) (F : FnP K "_law_odd" (top 37) f fd)  {f__law_of : Addr} {fd__law_of : FuncData} (D__law_of : Df P w K mg base 2 "_law_of" ["_law_bag_here", "_law_some"] 2 ofS f__law_of fd__law_of) : FnOk P w K mg base (L2.CX P w) 3 f fd ["_law_bag_here", "_law_others"] (spD ⟨K, mg⟩ 2 S_z01_law_odd) :=
  fn_ok (N := ["_law_bag_here", "_law_others"]) (ps := ["_law_bag_here", "_law_others"]) (g := g_z01_law_odd) F sc__law_odd fun cdv A outer s H E hr => by exact (xb_one (xs_ret (xe_call (takes_of rfl rfl rfl rfl) D__law_of (hr.mono (by decide)) (xa_cons (xe_var 0) (xa_cons (xe_add (xe_lst (xa_cons xe_non (xa_cons xe_bl (xa_cons xe_bl (xa_cons xe_str (xa_cons xe_str (xa_cons (xe_neg xe_int) (xa_cons (xe_pow xe_int xe_int) (xa_cons (xe_tup (xa_cons xe_int xa_nil)) (xa_cons (xe_lst (xa_cons xe_int xa_nil)) (xa_cons (xe_tup xa_nil) (xa_cons (xe_tup (xa_cons xe_int (xa_cons xe_bl xa_nil))) (xa_cons xe_str xa_nil))))))))))))) (xe_var 1)) xa_nil)))))
theorem sc__law_made_errors : FnScope ["_law_a", "_law_b", "_law_c", "_law_found"] ["_law_a", "_law_b", "_law_c"] (defScope (top 38)) := ⟨rfl, rfl, rfl, by decide +kernel, rfl, by decide +kernel, by decide +kernel⟩
def g__law_made_errors : Rn → Fr Out := (gSeq (gSet 3 (fLst (fCons (fErr "InvalidName" "InvalidName" ["value"] (fCons (fVar 0) fNil)) (fCons (fErr "InvalidRow" "InvalidRow" ["at"] (fCons (fVar 0) fNil)) (fCons (fErr "DuplicateName" "DuplicateName" ["name"] (fCons (fVar 0) fNil)) (fCons (fErr "InvalidStep" "InvalidStep" ["process", "index"] (fCons (fVar 0) (fCons (fVar 1) fNil))) (fCons (fErr "DuplicateMessage" "DuplicateMessage" ["message"] (fCons (fVar 0) fNil)) (fCons (fErr "Unsent" "Unsent" ["message"] (fCons (fVar 0) fNil)) (fCons (fErr "Ring" "Ring" ["process"] (fCons (fVar 0) fNil)) (fCons (fErr "TooMany" "TooMany" ["subject", "most"] (fCons (fVar 0) (fCons (fVar 1) fNil))) fNil)))))))))) (gSeq (gSet 3 (f2 sAdd (fVar 3) (fLst (fCons (fErr "InvalidPoint" "InvalidPoint" ["value"] (fCons (fVar 0) fNil)) (fCons (fErr "InvalidMoment" "InvalidMoment" ["value"] (fCons (fVar 0) fNil)) (fCons (fErr "InvalidClause" "InvalidClause" ["at"] (fCons (fVar 0) fNil)) (fCons (fErr "Parted" "Parted" ["at", "one", "other"] (fCons (fVar 0) (fCons (fVar 1) (fCons (fVar 2) fNil)))) (fCons (fErr "UnlikeLogs" "UnlikeLogs" [] fNil) (fCons (fErr "EmptyLot" "EmptyLot" [] fNil) (fCons (fErr "InvalidNumber" "InvalidNumber" ["value"] (fCons (fVar 0) fNil)) fNil)))))))))) (gSeq (gSet 3 (f2 sAdd (fVar 3) (fLst (fCons (fErr "InvalidWeights" "InvalidWeights" [] fNil) (fCons (fErr "Uneven" "Uneven" ["block"] (fCons (fVar 0) fNil)) (fCons (fErr "InvalidTests" "InvalidTests" ["at"] (fCons (fVar 0) fNil)) (fCons (fErr "InvalidText" "InvalidText" ["at"] (fCons (fVar 0) fNil)) (fCons (fErr "InvalidCommand" "InvalidCommand" ["at"] (fCons (fVar 0) fNil)) (fCons (fErr "Full" "Full" ["limit"] (fCons (fVar 0) fNil)) (fCons (fErr "InvalidLimit" "InvalidLimit" ["value"] (fCons (fVar 0) fNil)) (fCons (fErr "InvalidPage" "InvalidPage" ["line"] (fCons (fVar 0) fNil)) fNil))))))))))) (gRet (f2 sAdd (fVar 3) (fLst (fCons (fErr "UnknownProcess" "UnknownProcess" ["name"] (fCons (fVar 0) fNil)) (fCons (fErr "UnknownStep" "UnknownStep" ["step"] (fCons (fVar 0) fNil)) (fCons (fErr "UnknownName" "UnknownName" ["name"] (fCons (fVar 0) fNil)) (fCons (fErr "NothingLeft" "NothingLeft" [] fNil) fNil))))))))))
def S__law_made_errors : List Sl → Fr Sl := fnSem 4 g__law_made_errors
theorem ok__law_made_errors {f : Addr} {fd : FuncData} (T : Tx mg) (F : FnP K "_law_made_errors" (top 38) f fd)  {C_DuplicateMessage : Addr} (ER_DuplicateMessage : Er P w K mg base 1 "DuplicateMessage" "DuplicateMessage" ["message"] C_DuplicateMessage) {C_DuplicateName : Addr} (ER_DuplicateName : Er P w K mg base 1 "DuplicateName" "DuplicateName" ["name"] C_DuplicateName) {C_EmptyLot : Addr} (ER_EmptyLot : Er P w K mg base 1 "EmptyLot" "EmptyLot" [] C_EmptyLot) {C_Full : Addr} (ER_Full : Er P w K mg base 1 "Full" "Full" ["limit"] C_Full) {C_InvalidClause : Addr} (ER_InvalidClause : Er P w K mg base 1 "InvalidClause" "InvalidClause" ["at"] C_InvalidClause) {C_InvalidCommand : Addr} (ER_InvalidCommand : Er P w K mg base 1 "InvalidCommand" "InvalidCommand" ["at"] C_InvalidCommand) {C_InvalidLimit : Addr} (ER_InvalidLimit : Er P w K mg base 1 "InvalidLimit" "InvalidLimit" ["value"] C_InvalidLimit) {C_InvalidMoment : Addr} (ER_InvalidMoment : Er P w K mg base 1 "InvalidMoment" "InvalidMoment" ["value"] C_InvalidMoment) {C_InvalidName : Addr} (ER_InvalidName : Er P w K mg base 1 "InvalidName" "InvalidName" ["value"] C_InvalidName) {C_InvalidNumber : Addr} (ER_InvalidNumber : Er P w K mg base 1 "InvalidNumber" "InvalidNumber" ["value"] C_InvalidNumber) {C_InvalidPage : Addr} (ER_InvalidPage : Er P w K mg base 1 "InvalidPage" "InvalidPage" ["line"] C_InvalidPage) {C_InvalidPoint : Addr} (ER_InvalidPoint : Er P w K mg base 1 "InvalidPoint" "InvalidPoint" ["value"] C_InvalidPoint) {C_InvalidRow : Addr} (ER_InvalidRow : Er P w K mg base 1 "InvalidRow" "InvalidRow" ["at"] C_InvalidRow) {C_InvalidStep : Addr} (ER_InvalidStep : Er P w K mg base 1 "InvalidStep" "InvalidStep" ["process", "index"] C_InvalidStep) {C_InvalidTests : Addr} (ER_InvalidTests : Er P w K mg base 1 "InvalidTests" "InvalidTests" ["at"] C_InvalidTests) {C_InvalidText : Addr} (ER_InvalidText : Er P w K mg base 1 "InvalidText" "InvalidText" ["at"] C_InvalidText) {C_InvalidWeights : Addr} (ER_InvalidWeights : Er P w K mg base 1 "InvalidWeights" "InvalidWeights" [] C_InvalidWeights) {C_NothingLeft : Addr} (ER_NothingLeft : Er P w K mg base 1 "NothingLeft" "NothingLeft" [] C_NothingLeft) {C_Parted : Addr} (ER_Parted : Er P w K mg base 1 "Parted" "Parted" ["at", "one", "other"] C_Parted) {C_Ring : Addr} (ER_Ring : Er P w K mg base 1 "Ring" "Ring" ["process"] C_Ring) {C_TooMany : Addr} (ER_TooMany : Er P w K mg base 1 "TooMany" "TooMany" ["subject", "most"] C_TooMany) {C_Uneven : Addr} (ER_Uneven : Er P w K mg base 1 "Uneven" "Uneven" ["block"] C_Uneven) {C_UnknownName : Addr} (ER_UnknownName : Er P w K mg base 1 "UnknownName" "UnknownName" ["name"] C_UnknownName) {C_UnknownProcess : Addr} (ER_UnknownProcess : Er P w K mg base 1 "UnknownProcess" "UnknownProcess" ["name"] C_UnknownProcess) {C_UnknownStep : Addr} (ER_UnknownStep : Er P w K mg base 1 "UnknownStep" "UnknownStep" ["step"] C_UnknownStep) {C_UnlikeLogs : Addr} (ER_UnlikeLogs : Er P w K mg base 1 "UnlikeLogs" "UnlikeLogs" [] C_UnlikeLogs) {C_Unsent : Addr} (ER_Unsent : Er P w K mg base 1 "Unsent" "Unsent" ["message"] C_Unsent) : FnOk P w K mg base (L2.CX P w) 3 f fd ["_law_a", "_law_b", "_law_c"] (spD ⟨K, mg⟩ 3 S__law_made_errors) :=
  fn_ok (N := ["_law_a", "_law_b", "_law_c", "_law_found"]) (ps := ["_law_a", "_law_b", "_law_c"]) (g := g__law_made_errors) F sc__law_made_errors fun cdv A outer s H E hr => by exact (xb_cons (xs_set (i := 3) sc__law_made_errors.nd (xe_lst (xa_cons (xe_err (takes_of rfl rfl rfl rfl) ER_InvalidName (hr.mono (by omega)) (xa_cons (xe_var 0) xa_nil)) (xa_cons (xe_err (takes_of rfl rfl rfl rfl) ER_InvalidRow (hr.mono (by omega)) (xa_cons (xe_var 0) xa_nil)) (xa_cons (xe_err (takes_of rfl rfl rfl rfl) ER_DuplicateName (hr.mono (by omega)) (xa_cons (xe_var 0) xa_nil)) (xa_cons (xe_err (takes_of rfl rfl rfl rfl) ER_InvalidStep (hr.mono (by omega)) (xa_cons (xe_var 0) (xa_cons (xe_var 1) xa_nil))) (xa_cons (xe_err (takes_of rfl rfl rfl rfl) ER_DuplicateMessage (hr.mono (by omega)) (xa_cons (xe_var 0) xa_nil)) (xa_cons (xe_err (takes_of rfl rfl rfl rfl) ER_Unsent (hr.mono (by omega)) (xa_cons (xe_var 0) xa_nil)) (xa_cons (xe_err (takes_of rfl rfl rfl rfl) ER_Ring (hr.mono (by omega)) (xa_cons (xe_var 0) xa_nil)) (xa_cons (xe_err (takes_of rfl rfl rfl rfl) ER_TooMany (hr.mono (by omega)) (xa_cons (xe_var 0) (xa_cons (xe_var 1) xa_nil))) xa_nil)))))))))) (xb_cons (xs_set (i := 3) sc__law_made_errors.nd (xe_add (xe_var 3) (xe_lst (xa_cons (xe_err (takes_of rfl rfl rfl rfl) ER_InvalidPoint (hr.mono (by omega)) (xa_cons (xe_var 0) xa_nil)) (xa_cons (xe_err (takes_of rfl rfl rfl rfl) ER_InvalidMoment (hr.mono (by omega)) (xa_cons (xe_var 0) xa_nil)) (xa_cons (xe_err (takes_of rfl rfl rfl rfl) ER_InvalidClause (hr.mono (by omega)) (xa_cons (xe_var 0) xa_nil)) (xa_cons (xe_err (takes_of rfl rfl rfl rfl) ER_Parted (hr.mono (by omega)) (xa_cons (xe_var 0) (xa_cons (xe_var 1) (xa_cons (xe_var 2) xa_nil)))) (xa_cons (xe_err0 (takes_of rfl rfl rfl rfl) ER_UnlikeLogs (hr.mono (by omega))) (xa_cons (xe_err0 (takes_of rfl rfl rfl rfl) ER_EmptyLot (hr.mono (by omega))) (xa_cons (xe_err (takes_of rfl rfl rfl rfl) ER_InvalidNumber (hr.mono (by omega)) (xa_cons (xe_var 0) xa_nil)) xa_nil)))))))))) (xb_cons (xs_set (i := 3) sc__law_made_errors.nd (xe_add (xe_var 3) (xe_lst (xa_cons (xe_err0 (takes_of rfl rfl rfl rfl) ER_InvalidWeights (hr.mono (by omega))) (xa_cons (xe_err (takes_of rfl rfl rfl rfl) ER_Uneven (hr.mono (by omega)) (xa_cons (xe_var 0) xa_nil)) (xa_cons (xe_err (takes_of rfl rfl rfl rfl) ER_InvalidTests (hr.mono (by omega)) (xa_cons (xe_var 0) xa_nil)) (xa_cons (xe_err (takes_of rfl rfl rfl rfl) ER_InvalidText (hr.mono (by omega)) (xa_cons (xe_var 0) xa_nil)) (xa_cons (xe_err (takes_of rfl rfl rfl rfl) ER_InvalidCommand (hr.mono (by omega)) (xa_cons (xe_var 0) xa_nil)) (xa_cons (xe_err (takes_of rfl rfl rfl rfl) ER_Full (hr.mono (by omega)) (xa_cons (xe_var 0) xa_nil)) (xa_cons (xe_err (takes_of rfl rfl rfl rfl) ER_InvalidLimit (hr.mono (by omega)) (xa_cons (xe_var 0) xa_nil)) (xa_cons (xe_err (takes_of rfl rfl rfl rfl) ER_InvalidPage (hr.mono (by omega)) (xa_cons (xe_var 0) xa_nil)) xa_nil))))))))))) (xb_one (xs_ret (xe_add (xe_var 3) (xe_lst (xa_cons (xe_err (takes_of rfl rfl rfl rfl) ER_UnknownProcess (hr.mono (by omega)) (xa_cons (xe_var 0) xa_nil)) (xa_cons (xe_err (takes_of rfl rfl rfl rfl) ER_UnknownStep (hr.mono (by omega)) (xa_cons (xe_var 0) xa_nil)) (xa_cons (xe_err (takes_of rfl rfl rfl rfl) ER_UnknownName (hr.mono (by omega)) (xa_cons (xe_var 0) xa_nil)) (xa_cons (xe_err0 (takes_of rfl rfl rfl rfl) ER_NothingLeft (hr.mono (by omega))) xa_nil)))))))))))
theorem sc__law_named_errors : FnScope ["_law_a", "_law_b", "_law_c", "_law_found"] ["_law_a", "_law_b", "_law_c"] (defScope (top 39)) := ⟨rfl, rfl, rfl, by decide +kernel, rfl, by decide +kernel, by decide +kernel⟩
def g__law_named_errors : Rn → Fr Out := (gSeq (gSet 3 (fLst (fCons (fErrK "InvalidName" "InvalidName" ["value"] 1 [0] (fCons (fVar 0) fNil)) (fCons (fErrK "InvalidRow" "InvalidRow" ["at"] 1 [0] (fCons (fVar 0) fNil)) (fCons (fErrK "DuplicateName" "DuplicateName" ["name"] 1 [0] (fCons (fVar 0) fNil)) (fCons (fErrK "InvalidStep" "InvalidStep" ["process", "index"] 2 [1, 0] (fCons (fVar 1) (fCons (fVar 0) fNil))) (fCons (fErrK "DuplicateMessage" "DuplicateMessage" ["message"] 1 [0] (fCons (fVar 0) fNil)) fNil))))))) (gSeq (gSet 3 (f2 sAdd (fVar 3) (fLst (fCons (fErrK "Unsent" "Unsent" ["message"] 1 [0] (fCons (fVar 0) fNil)) (fCons (fErrK "Ring" "Ring" ["process"] 1 [0] (fCons (fVar 0) fNil)) (fCons (fErrK "TooMany" "TooMany" ["subject", "most"] 2 [1, 0] (fCons (fVar 1) (fCons (fVar 0) fNil))) (fCons (fErrK "InvalidPoint" "InvalidPoint" ["value"] 1 [0] (fCons (fVar 0) fNil)) (fCons (fErrK "InvalidMoment" "InvalidMoment" ["value"] 1 [0] (fCons (fVar 0) fNil)) fNil)))))))) (gSeq (gSet 3 (f2 sAdd (fVar 3) (fLst (fCons (fErrK "InvalidClause" "InvalidClause" ["at"] 1 [0] (fCons (fVar 0) fNil)) (fCons (fErrK "Parted" "Parted" ["at", "one", "other"] 3 [2, 1, 0] (fCons (fVar 2) (fCons (fVar 1) (fCons (fVar 0) fNil)))) (fCons (fErr "UnlikeLogs" "UnlikeLogs" [] fNil) (fCons (fErr "EmptyLot" "EmptyLot" [] fNil) (fCons (fErrK "InvalidNumber" "InvalidNumber" ["value"] 1 [0] (fCons (fVar 0) fNil)) (fCons (fErr "InvalidWeights" "InvalidWeights" [] fNil) fNil))))))))) (gSeq (gSet 3 (f2 sAdd (fVar 3) (fLst (fCons (fErrK "Uneven" "Uneven" ["block"] 1 [0] (fCons (fVar 0) fNil)) (fCons (fErrK "InvalidTests" "InvalidTests" ["at"] 1 [0] (fCons (fVar 0) fNil)) (fCons (fErrK "InvalidText" "InvalidText" ["at"] 1 [0] (fCons (fVar 0) fNil)) (fCons (fErrK "InvalidCommand" "InvalidCommand" ["at"] 1 [0] (fCons (fVar 0) fNil)) (fCons (fErrK "Full" "Full" ["limit"] 1 [0] (fCons (fVar 0) fNil)) (fCons (fErrK "InvalidLimit" "InvalidLimit" ["value"] 1 [0] (fCons (fVar 0) fNil)) fNil))))))))) (gRet (f2 sAdd (fVar 3) (fLst (fCons (fErrK "InvalidPage" "InvalidPage" ["line"] 1 [0] (fCons (fVar 0) fNil)) (fCons (fErrK "UnknownProcess" "UnknownProcess" ["name"] 1 [0] (fCons (fVar 0) fNil)) (fCons (fErrK "UnknownStep" "UnknownStep" ["step"] 1 [0] (fCons (fVar 0) fNil)) (fCons (fErrK "UnknownName" "UnknownName" ["name"] 1 [0] (fCons (fVar 0) fNil)) (fCons (fErr "NothingLeft" "NothingLeft" [] fNil) fNil))))))))))))
def S__law_named_errors : List Sl → Fr Sl := fnSem 4 g__law_named_errors
theorem ok__law_named_errors {f : Addr} {fd : FuncData} (T : Tx mg) (F : FnP K "_law_named_errors" (top 39) f fd)  {C_EmptyLot : Addr} (ER_EmptyLot : Er P w K mg base 1 "EmptyLot" "EmptyLot" [] C_EmptyLot) {C_InvalidWeights : Addr} (ER_InvalidWeights : Er P w K mg base 1 "InvalidWeights" "InvalidWeights" [] C_InvalidWeights) {C_NothingLeft : Addr} (ER_NothingLeft : Er P w K mg base 1 "NothingLeft" "NothingLeft" [] C_NothingLeft) {C_UnlikeLogs : Addr} (ER_UnlikeLogs : Er P w K mg base 1 "UnlikeLogs" "UnlikeLogs" [] C_UnlikeLogs) {C_DuplicateMessage : Addr} (EK_DuplicateMessage_message : ErK P w K mg base 1 "DuplicateMessage" "DuplicateMessage" ["message"] C_DuplicateMessage ["message"] [0]) {C_DuplicateName : Addr} (EK_DuplicateName_name : ErK P w K mg base 1 "DuplicateName" "DuplicateName" ["name"] C_DuplicateName ["name"] [0]) {C_Full : Addr} (EK_Full_limit : ErK P w K mg base 1 "Full" "Full" ["limit"] C_Full ["limit"] [0]) {C_InvalidClause : Addr} (EK_InvalidClause_at : ErK P w K mg base 1 "InvalidClause" "InvalidClause" ["at"] C_InvalidClause ["at"] [0]) {C_InvalidCommand : Addr} (EK_InvalidCommand_at : ErK P w K mg base 1 "InvalidCommand" "InvalidCommand" ["at"] C_InvalidCommand ["at"] [0]) {C_InvalidLimit : Addr} (EK_InvalidLimit_value : ErK P w K mg base 1 "InvalidLimit" "InvalidLimit" ["value"] C_InvalidLimit ["value"] [0]) {C_InvalidMoment : Addr} (EK_InvalidMoment_value : ErK P w K mg base 1 "InvalidMoment" "InvalidMoment" ["value"] C_InvalidMoment ["value"] [0]) {C_InvalidName : Addr} (EK_InvalidName_value : ErK P w K mg base 1 "InvalidName" "InvalidName" ["value"] C_InvalidName ["value"] [0]) {C_InvalidNumber : Addr} (EK_InvalidNumber_value : ErK P w K mg base 1 "InvalidNumber" "InvalidNumber" ["value"] C_InvalidNumber ["value"] [0]) {C_InvalidPage : Addr} (EK_InvalidPage_line : ErK P w K mg base 1 "InvalidPage" "InvalidPage" ["line"] C_InvalidPage ["line"] [0]) {C_InvalidPoint : Addr} (EK_InvalidPoint_value : ErK P w K mg base 1 "InvalidPoint" "InvalidPoint" ["value"] C_InvalidPoint ["value"] [0]) {C_InvalidRow : Addr} (EK_InvalidRow_at : ErK P w K mg base 1 "InvalidRow" "InvalidRow" ["at"] C_InvalidRow ["at"] [0]) {C_InvalidStep : Addr} (EK_InvalidStep_index_process : ErK P w K mg base 1 "InvalidStep" "InvalidStep" ["process", "index"] C_InvalidStep ["index", "process"] [1, 0]) {C_InvalidTests : Addr} (EK_InvalidTests_at : ErK P w K mg base 1 "InvalidTests" "InvalidTests" ["at"] C_InvalidTests ["at"] [0]) {C_InvalidText : Addr} (EK_InvalidText_at : ErK P w K mg base 1 "InvalidText" "InvalidText" ["at"] C_InvalidText ["at"] [0]) {C_Parted : Addr} (EK_Parted_other_one_at : ErK P w K mg base 1 "Parted" "Parted" ["at", "one", "other"] C_Parted ["other", "one", "at"] [2, 1, 0]) {C_Ring : Addr} (EK_Ring_process : ErK P w K mg base 1 "Ring" "Ring" ["process"] C_Ring ["process"] [0]) {C_TooMany : Addr} (EK_TooMany_most_subject : ErK P w K mg base 1 "TooMany" "TooMany" ["subject", "most"] C_TooMany ["most", "subject"] [1, 0]) {C_Uneven : Addr} (EK_Uneven_block : ErK P w K mg base 1 "Uneven" "Uneven" ["block"] C_Uneven ["block"] [0]) {C_UnknownName : Addr} (EK_UnknownName_name : ErK P w K mg base 1 "UnknownName" "UnknownName" ["name"] C_UnknownName ["name"] [0]) {C_UnknownProcess : Addr} (EK_UnknownProcess_name : ErK P w K mg base 1 "UnknownProcess" "UnknownProcess" ["name"] C_UnknownProcess ["name"] [0]) {C_UnknownStep : Addr} (EK_UnknownStep_step : ErK P w K mg base 1 "UnknownStep" "UnknownStep" ["step"] C_UnknownStep ["step"] [0]) {C_Unsent : Addr} (EK_Unsent_message : ErK P w K mg base 1 "Unsent" "Unsent" ["message"] C_Unsent ["message"] [0]) : FnOk P w K mg base (L2.CX P w) 3 f fd ["_law_a", "_law_b", "_law_c"] (spD ⟨K, mg⟩ 3 S__law_named_errors) :=
  fn_ok (N := ["_law_a", "_law_b", "_law_c", "_law_found"]) (ps := ["_law_a", "_law_b", "_law_c"]) (g := g__law_named_errors) F sc__law_named_errors fun cdv A outer s H E hr => by exact (xb_cons (xs_set (i := 3) sc__law_named_errors.nd (xe_lst (xa_cons (xe_errK (takes_of rfl rfl rfl rfl) EK_InvalidName_value (hr.mono (by omega)) (xk_cons (xe_var 0) xk_nil)) (xa_cons (xe_errK (takes_of rfl rfl rfl rfl) EK_InvalidRow_at (hr.mono (by omega)) (xk_cons (xe_var 0) xk_nil)) (xa_cons (xe_errK (takes_of rfl rfl rfl rfl) EK_DuplicateName_name (hr.mono (by omega)) (xk_cons (xe_var 0) xk_nil)) (xa_cons (xe_errK (takes_of rfl rfl rfl rfl) EK_InvalidStep_index_process (hr.mono (by omega)) (xk_cons (xe_var 1) (xk_cons (xe_var 0) xk_nil))) (xa_cons (xe_errK (takes_of rfl rfl rfl rfl) EK_DuplicateMessage_message (hr.mono (by omega)) (xk_cons (xe_var 0) xk_nil)) xa_nil))))))) (xb_cons (xs_set (i := 3) sc__law_named_errors.nd (xe_add (xe_var 3) (xe_lst (xa_cons (xe_errK (takes_of rfl rfl rfl rfl) EK_Unsent_message (hr.mono (by omega)) (xk_cons (xe_var 0) xk_nil)) (xa_cons (xe_errK (takes_of rfl rfl rfl rfl) EK_Ring_process (hr.mono (by omega)) (xk_cons (xe_var 0) xk_nil)) (xa_cons (xe_errK (takes_of rfl rfl rfl rfl) EK_TooMany_most_subject (hr.mono (by omega)) (xk_cons (xe_var 1) (xk_cons (xe_var 0) xk_nil))) (xa_cons (xe_errK (takes_of rfl rfl rfl rfl) EK_InvalidPoint_value (hr.mono (by omega)) (xk_cons (xe_var 0) xk_nil)) (xa_cons (xe_errK (takes_of rfl rfl rfl rfl) EK_InvalidMoment_value (hr.mono (by omega)) (xk_cons (xe_var 0) xk_nil)) xa_nil)))))))) (xb_cons (xs_set (i := 3) sc__law_named_errors.nd (xe_add (xe_var 3) (xe_lst (xa_cons (xe_errK (takes_of rfl rfl rfl rfl) EK_InvalidClause_at (hr.mono (by omega)) (xk_cons (xe_var 0) xk_nil)) (xa_cons (xe_errK (takes_of rfl rfl rfl rfl) EK_Parted_other_one_at (hr.mono (by omega)) (xk_cons (xe_var 2) (xk_cons (xe_var 1) (xk_cons (xe_var 0) xk_nil)))) (xa_cons (xe_err0 (takes_of rfl rfl rfl rfl) ER_UnlikeLogs (hr.mono (by omega))) (xa_cons (xe_err0 (takes_of rfl rfl rfl rfl) ER_EmptyLot (hr.mono (by omega))) (xa_cons (xe_errK (takes_of rfl rfl rfl rfl) EK_InvalidNumber_value (hr.mono (by omega)) (xk_cons (xe_var 0) xk_nil)) (xa_cons (xe_err0 (takes_of rfl rfl rfl rfl) ER_InvalidWeights (hr.mono (by omega))) xa_nil))))))))) (xb_cons (xs_set (i := 3) sc__law_named_errors.nd (xe_add (xe_var 3) (xe_lst (xa_cons (xe_errK (takes_of rfl rfl rfl rfl) EK_Uneven_block (hr.mono (by omega)) (xk_cons (xe_var 0) xk_nil)) (xa_cons (xe_errK (takes_of rfl rfl rfl rfl) EK_InvalidTests_at (hr.mono (by omega)) (xk_cons (xe_var 0) xk_nil)) (xa_cons (xe_errK (takes_of rfl rfl rfl rfl) EK_InvalidText_at (hr.mono (by omega)) (xk_cons (xe_var 0) xk_nil)) (xa_cons (xe_errK (takes_of rfl rfl rfl rfl) EK_InvalidCommand_at (hr.mono (by omega)) (xk_cons (xe_var 0) xk_nil)) (xa_cons (xe_errK (takes_of rfl rfl rfl rfl) EK_Full_limit (hr.mono (by omega)) (xk_cons (xe_var 0) xk_nil)) (xa_cons (xe_errK (takes_of rfl rfl rfl rfl) EK_InvalidLimit_value (hr.mono (by omega)) (xk_cons (xe_var 0) xk_nil)) xa_nil))))))))) (xb_one (xs_ret (xe_add (xe_var 3) (xe_lst (xa_cons (xe_errK (takes_of rfl rfl rfl rfl) EK_InvalidPage_line (hr.mono (by omega)) (xk_cons (xe_var 0) xk_nil)) (xa_cons (xe_errK (takes_of rfl rfl rfl rfl) EK_UnknownProcess_name (hr.mono (by omega)) (xk_cons (xe_var 0) xk_nil)) (xa_cons (xe_errK (takes_of rfl rfl rfl rfl) EK_UnknownStep_step (hr.mono (by omega)) (xk_cons (xe_var 0) xk_nil)) (xa_cons (xe_errK (takes_of rfl rfl rfl rfl) EK_UnknownName_name (hr.mono (by omega)) (xk_cons (xe_var 0) xk_nil)) (xa_cons (xe_err0 (takes_of rfl rfl rfl rfl) ER_NothingLeft (hr.mono (by omega))) xa_nil)))))))))))))
theorem sc__law_kinds_of : FnScope ["_law_e", "_law_found"] ["_law_e"] (defScope (top 40)) := ⟨rfl, rfl, rfl, by decide +kernel, rfl, by decide +kernel, by decide +kernel⟩
def g__law_kinds_of : Rn → Fr Out := (gSeq (gSet 1 (fLst (fCons (f1 (sIsE ALLE (isAL "InvalidName")) (fVar 0)) (fCons (f1 (sIsE ALLE (isAL "InvalidRow")) (fVar 0)) (fCons (f1 (sIsE ALLE (isAL "DuplicateName")) (fVar 0)) (fCons (f1 (sIsE ALLE (isAL "InvalidStep")) (fVar 0)) fNil)))))) (gSeq (gSet 1 (f2 sAdd (fVar 1) (fLst (fCons (f1 (sIsE ALLE (isAL "DuplicateMessage")) (fVar 0)) (fCons (f1 (sIsE ALLE (isAL "Unsent")) (fVar 0)) (fCons (f1 (sIsE ALLE (isAL "Ring")) (fVar 0)) (fCons (f1 (sIsE ALLE (isAL "TooMany")) (fVar 0)) fNil))))))) (gSeq (gSet 1 (f2 sAdd (fVar 1) (fLst (fCons (f1 (sIsE ALLE (isAL "InvalidPoint")) (fVar 0)) (fCons (f1 (sIsE ALLE (isAL "InvalidMoment")) (fVar 0)) (fCons (f1 (sIsE ALLE (isAL "InvalidClause")) (fVar 0)) (fCons (f1 (sIsE ALLE (isAL "Parted")) (fVar 0)) fNil))))))) (gSeq (gSet 1 (f2 sAdd (fVar 1) (fLst (fCons (f1 (sIsE ALLE (isAL "UnlikeLogs")) (fVar 0)) (fCons (f1 (sIsE ALLE (isAL "EmptyLot")) (fVar 0)) (fCons (f1 (sIsE ALLE (isAL "InvalidNumber")) (fVar 0)) (fCons (f1 (sIsE ALLE (isAL "InvalidWeights")) (fVar 0)) fNil))))))) (gSeq (gSet 1 (f2 sAdd (fVar 1) (fLst (fCons (f1 (sIsE ALLE (isAL "Uneven")) (fVar 0)) (fCons (f1 (sIsE ALLE (isAL "InvalidTests")) (fVar 0)) (fCons (f1 (sIsE ALLE (isAL "InvalidText")) (fVar 0)) (fCons (f1 (sIsE ALLE (isAL "InvalidCommand")) (fVar 0)) fNil))))))) (gSeq (gSet 1 (f2 sAdd (fVar 1) (fLst (fCons (f1 (sIsE ALLE (isAL "Full")) (fVar 0)) (fCons (f1 (sIsE ALLE (isAL "InvalidLimit")) (fVar 0)) (fCons (f1 (sIsE ALLE (isAL "InvalidPage")) (fVar 0)) (fCons (f1 (sIsE ALLE (isAL "UnknownProcess")) (fVar 0)) fNil))))))) (gRet (f2 sAdd (fVar 1) (fLst (fCons (f1 (sIsE ALLE (isAL "UnknownStep")) (fVar 0)) (fCons (f1 (sIsE ALLE (isAL "UnknownName")) (fVar 0)) (fCons (f1 (sIsE ALLE (isAL "NothingLeft")) (fVar 0)) fNil))))))))))))
def S__law_kinds_of : List Sl → Fr Sl := fnSem 2 g__law_kinds_of
theorem ok__law_kinds_of {f : Addr} {fd : FuncData} (T : Tx mg) (F : FnP K "_law_kinds_of" (top 40) f fd)  {C_DuplicateMessage : Addr} (NM_DuplicateMessage : mg "DuplicateMessage" = some (.ref C_DuplicateMessage)) (IE_DuplicateMessage : IsEf K mg ALLE (isAL "DuplicateMessage") (.ref C_DuplicateMessage)) {C_DuplicateName : Addr} (NM_DuplicateName : mg "DuplicateName" = some (.ref C_DuplicateName)) (IE_DuplicateName : IsEf K mg ALLE (isAL "DuplicateName") (.ref C_DuplicateName)) {C_EmptyLot : Addr} (NM_EmptyLot : mg "EmptyLot" = some (.ref C_EmptyLot)) (IE_EmptyLot : IsEf K mg ALLE (isAL "EmptyLot") (.ref C_EmptyLot)) {C_Full : Addr} (NM_Full : mg "Full" = some (.ref C_Full)) (IE_Full : IsEf K mg ALLE (isAL "Full") (.ref C_Full)) {C_InvalidClause : Addr} (NM_InvalidClause : mg "InvalidClause" = some (.ref C_InvalidClause)) (IE_InvalidClause : IsEf K mg ALLE (isAL "InvalidClause") (.ref C_InvalidClause)) {C_InvalidCommand : Addr} (NM_InvalidCommand : mg "InvalidCommand" = some (.ref C_InvalidCommand)) (IE_InvalidCommand : IsEf K mg ALLE (isAL "InvalidCommand") (.ref C_InvalidCommand)) {C_InvalidLimit : Addr} (NM_InvalidLimit : mg "InvalidLimit" = some (.ref C_InvalidLimit)) (IE_InvalidLimit : IsEf K mg ALLE (isAL "InvalidLimit") (.ref C_InvalidLimit)) {C_InvalidMoment : Addr} (NM_InvalidMoment : mg "InvalidMoment" = some (.ref C_InvalidMoment)) (IE_InvalidMoment : IsEf K mg ALLE (isAL "InvalidMoment") (.ref C_InvalidMoment)) {C_InvalidName : Addr} (NM_InvalidName : mg "InvalidName" = some (.ref C_InvalidName)) (IE_InvalidName : IsEf K mg ALLE (isAL "InvalidName") (.ref C_InvalidName)) {C_InvalidNumber : Addr} (NM_InvalidNumber : mg "InvalidNumber" = some (.ref C_InvalidNumber)) (IE_InvalidNumber : IsEf K mg ALLE (isAL "InvalidNumber") (.ref C_InvalidNumber)) {C_InvalidPage : Addr} (NM_InvalidPage : mg "InvalidPage" = some (.ref C_InvalidPage)) (IE_InvalidPage : IsEf K mg ALLE (isAL "InvalidPage") (.ref C_InvalidPage)) {C_InvalidPoint : Addr} (NM_InvalidPoint : mg "InvalidPoint" = some (.ref C_InvalidPoint)) (IE_InvalidPoint : IsEf K mg ALLE (isAL "InvalidPoint") (.ref C_InvalidPoint)) {C_InvalidRow : Addr} (NM_InvalidRow : mg "InvalidRow" = some (.ref C_InvalidRow)) (IE_InvalidRow : IsEf K mg ALLE (isAL "InvalidRow") (.ref C_InvalidRow)) {C_InvalidStep : Addr} (NM_InvalidStep : mg "InvalidStep" = some (.ref C_InvalidStep)) (IE_InvalidStep : IsEf K mg ALLE (isAL "InvalidStep") (.ref C_InvalidStep)) {C_InvalidTests : Addr} (NM_InvalidTests : mg "InvalidTests" = some (.ref C_InvalidTests)) (IE_InvalidTests : IsEf K mg ALLE (isAL "InvalidTests") (.ref C_InvalidTests)) {C_InvalidText : Addr} (NM_InvalidText : mg "InvalidText" = some (.ref C_InvalidText)) (IE_InvalidText : IsEf K mg ALLE (isAL "InvalidText") (.ref C_InvalidText)) {C_InvalidWeights : Addr} (NM_InvalidWeights : mg "InvalidWeights" = some (.ref C_InvalidWeights)) (IE_InvalidWeights : IsEf K mg ALLE (isAL "InvalidWeights") (.ref C_InvalidWeights)) {C_NothingLeft : Addr} (NM_NothingLeft : mg "NothingLeft" = some (.ref C_NothingLeft)) (IE_NothingLeft : IsEf K mg ALLE (isAL "NothingLeft") (.ref C_NothingLeft)) {C_Parted : Addr} (NM_Parted : mg "Parted" = some (.ref C_Parted)) (IE_Parted : IsEf K mg ALLE (isAL "Parted") (.ref C_Parted)) {C_Ring : Addr} (NM_Ring : mg "Ring" = some (.ref C_Ring)) (IE_Ring : IsEf K mg ALLE (isAL "Ring") (.ref C_Ring)) {C_TooMany : Addr} (NM_TooMany : mg "TooMany" = some (.ref C_TooMany)) (IE_TooMany : IsEf K mg ALLE (isAL "TooMany") (.ref C_TooMany)) {C_Uneven : Addr} (NM_Uneven : mg "Uneven" = some (.ref C_Uneven)) (IE_Uneven : IsEf K mg ALLE (isAL "Uneven") (.ref C_Uneven)) {C_UnknownName : Addr} (NM_UnknownName : mg "UnknownName" = some (.ref C_UnknownName)) (IE_UnknownName : IsEf K mg ALLE (isAL "UnknownName") (.ref C_UnknownName)) {C_UnknownProcess : Addr} (NM_UnknownProcess : mg "UnknownProcess" = some (.ref C_UnknownProcess)) (IE_UnknownProcess : IsEf K mg ALLE (isAL "UnknownProcess") (.ref C_UnknownProcess)) {C_UnknownStep : Addr} (NM_UnknownStep : mg "UnknownStep" = some (.ref C_UnknownStep)) (IE_UnknownStep : IsEf K mg ALLE (isAL "UnknownStep") (.ref C_UnknownStep)) {C_UnlikeLogs : Addr} (NM_UnlikeLogs : mg "UnlikeLogs" = some (.ref C_UnlikeLogs)) (IE_UnlikeLogs : IsEf K mg ALLE (isAL "UnlikeLogs") (.ref C_UnlikeLogs)) {C_Unsent : Addr} (NM_Unsent : mg "Unsent" = some (.ref C_Unsent)) (IE_Unsent : IsEf K mg ALLE (isAL "Unsent") (.ref C_Unsent)) : FnOk P w K mg base (L2.CX P w) 1 f fd ["_law_e"] (spD ⟨K, mg⟩ 1 S__law_kinds_of) :=
  fn_ok (N := ["_law_e", "_law_found"]) (ps := ["_law_e"]) (g := g__law_kinds_of) F sc__law_kinds_of fun cdv A outer s H E hr => by exact (xb_cons (xs_set (i := 1) sc__law_kinds_of.nd (xe_lst (xa_cons (xe_isEo NM_InvalidName IE_InvalidName T.f_isinstance (xe_var 0)) (xa_cons (xe_isEo NM_InvalidRow IE_InvalidRow T.f_isinstance (xe_var 0)) (xa_cons (xe_isEo NM_DuplicateName IE_DuplicateName T.f_isinstance (xe_var 0)) (xa_cons (xe_isEo NM_InvalidStep IE_InvalidStep T.f_isinstance (xe_var 0)) xa_nil)))))) (xb_cons (xs_set (i := 1) sc__law_kinds_of.nd (xe_add (xe_var 1) (xe_lst (xa_cons (xe_isEo NM_DuplicateMessage IE_DuplicateMessage T.f_isinstance (xe_var 0)) (xa_cons (xe_isEo NM_Unsent IE_Unsent T.f_isinstance (xe_var 0)) (xa_cons (xe_isEo NM_Ring IE_Ring T.f_isinstance (xe_var 0)) (xa_cons (xe_isEo NM_TooMany IE_TooMany T.f_isinstance (xe_var 0)) xa_nil))))))) (xb_cons (xs_set (i := 1) sc__law_kinds_of.nd (xe_add (xe_var 1) (xe_lst (xa_cons (xe_isEo NM_InvalidPoint IE_InvalidPoint T.f_isinstance (xe_var 0)) (xa_cons (xe_isEo NM_InvalidMoment IE_InvalidMoment T.f_isinstance (xe_var 0)) (xa_cons (xe_isEo NM_InvalidClause IE_InvalidClause T.f_isinstance (xe_var 0)) (xa_cons (xe_isEo NM_Parted IE_Parted T.f_isinstance (xe_var 0)) xa_nil))))))) (xb_cons (xs_set (i := 1) sc__law_kinds_of.nd (xe_add (xe_var 1) (xe_lst (xa_cons (xe_isEo NM_UnlikeLogs IE_UnlikeLogs T.f_isinstance (xe_var 0)) (xa_cons (xe_isEo NM_EmptyLot IE_EmptyLot T.f_isinstance (xe_var 0)) (xa_cons (xe_isEo NM_InvalidNumber IE_InvalidNumber T.f_isinstance (xe_var 0)) (xa_cons (xe_isEo NM_InvalidWeights IE_InvalidWeights T.f_isinstance (xe_var 0)) xa_nil))))))) (xb_cons (xs_set (i := 1) sc__law_kinds_of.nd (xe_add (xe_var 1) (xe_lst (xa_cons (xe_isEo NM_Uneven IE_Uneven T.f_isinstance (xe_var 0)) (xa_cons (xe_isEo NM_InvalidTests IE_InvalidTests T.f_isinstance (xe_var 0)) (xa_cons (xe_isEo NM_InvalidText IE_InvalidText T.f_isinstance (xe_var 0)) (xa_cons (xe_isEo NM_InvalidCommand IE_InvalidCommand T.f_isinstance (xe_var 0)) xa_nil))))))) (xb_cons (xs_set (i := 1) sc__law_kinds_of.nd (xe_add (xe_var 1) (xe_lst (xa_cons (xe_isEo NM_Full IE_Full T.f_isinstance (xe_var 0)) (xa_cons (xe_isEo NM_InvalidLimit IE_InvalidLimit T.f_isinstance (xe_var 0)) (xa_cons (xe_isEo NM_InvalidPage IE_InvalidPage T.f_isinstance (xe_var 0)) (xa_cons (xe_isEo NM_UnknownProcess IE_UnknownProcess T.f_isinstance (xe_var 0)) xa_nil))))))) (xb_one (xs_ret (xe_add (xe_var 1) (xe_lst (xa_cons (xe_isEo NM_UnknownStep IE_UnknownStep T.f_isinstance (xe_var 0)) (xa_cons (xe_isEo NM_UnknownName IE_UnknownName T.f_isinstance (xe_var 0)) (xa_cons (xe_isEo NM_NothingLeft IE_NothingLeft T.f_isinstance (xe_var 0)) xa_nil)))))))))))))
theorem sc__law_codes : FnScope ["_law_found"] [] (defScope (top 41)) := ⟨rfl, rfl, rfl, by decide +kernel, rfl, by decide +kernel, by decide +kernel⟩
def g__law_codes : Rn → Fr Out := (gSeq (gSet 0 (fLst (fCons (fC (.str "InvalidName")) (fCons (fC (.str "InvalidRow")) (fCons (fC (.str "DuplicateName")) (fCons (fC (.str "InvalidStep")) (fCons (fC (.str "DuplicateMessage")) (fCons (fC (.str "Unsent")) (fCons (fC (.str "Ring")) (fCons (fC (.str "TooMany")) (fCons (fC (.str "InvalidPoint")) fNil))))))))))) (gSeq (gSet 0 (f2 sAdd (fVar 0) (fLst (fCons (fC (.str "InvalidMoment")) (fCons (fC (.str "InvalidClause")) (fCons (fC (.str "Parted")) (fCons (fC (.str "UnlikeLogs")) (fCons (fC (.str "EmptyLot")) (fCons (fC (.str "InvalidNumber")) (fCons (fC (.str "InvalidWeights")) (fCons (fC (.str "Uneven")) fNil))))))))))) (gSeq (gSet 0 (f2 sAdd (fVar 0) (fLst (fCons (fC (.str "InvalidTests")) (fCons (fC (.str "InvalidText")) (fCons (fC (.str "InvalidCommand")) (fCons (fC (.str "Full")) (fCons (fC (.str "InvalidLimit")) (fCons (fC (.str "InvalidPage")) (fCons (fC (.str "UnknownProcess")) fNil)))))))))) (gRet (f2 sAdd (fVar 0) (fLst (fCons (fC (.str "UnknownStep")) (fCons (fC (.str "UnknownName")) (fCons (fC (.str "NothingLeft")) fNil)))))))))
def S__law_codes : List Sl → Fr Sl := fnSem 1 g__law_codes
theorem ok__law_codes {f : Addr} {fd : FuncData} (T : Tx mg) (F : FnP K "_law_codes" (top 41) f fd)  : FnOk P w K mg base (L2.CX P w) 1 f fd [] (spD ⟨K, mg⟩ 0 S__law_codes) :=
  fn_ok (N := ["_law_found"]) (ps := []) (g := g__law_codes) F sc__law_codes fun cdv A outer s H E hr => by exact (xb_cons (xs_set (i := 0) sc__law_codes.nd (xe_lst (xa_cons xe_str (xa_cons xe_str (xa_cons xe_str (xa_cons xe_str (xa_cons xe_str (xa_cons xe_str (xa_cons xe_str (xa_cons xe_str (xa_cons xe_str xa_nil))))))))))) (xb_cons (xs_set (i := 0) sc__law_codes.nd (xe_add (xe_var 0) (xe_lst (xa_cons xe_str (xa_cons xe_str (xa_cons xe_str (xa_cons xe_str (xa_cons xe_str (xa_cons xe_str (xa_cons xe_str (xa_cons xe_str xa_nil))))))))))) (xb_cons (xs_set (i := 0) sc__law_codes.nd (xe_add (xe_var 0) (xe_lst (xa_cons xe_str (xa_cons xe_str (xa_cons xe_str (xa_cons xe_str (xa_cons xe_str (xa_cons xe_str (xa_cons xe_str xa_nil)))))))))) (xb_one (xs_ret (xe_add (xe_var 0) (xe_lst (xa_cons xe_str (xa_cons xe_str (xa_cons xe_str xa_nil))))))))))
end
end TM
namespace TM
open PySem PySem.Spec PyProof.Rows L2
/-- the plain law (a structure, so that nothing evaluates it) -/
structure PureL (g : Rn → Fr Out) (ρ : Rn) : Prop where
  ok : (g ρ).wp Yes
end TM
namespace TM
open PySem PySem.Spec PyProof.Rows L2
open LamX
section
variable {P : Program} {w : World} {K : PySem.W.Frag} {mg : Str → Option Value} {base : Heap}
theorem sc_law : FnScope ["_law_script", "_law_bag_here", "_law_a", "_law_b", "_law_c", "_law_codes_here", "_law_place", "_law_e", "_law_due", "_law_above", "_law_k"] ["_law_script"] (defScope (top 42)) := ⟨rfl, rfl, rfl, by decide +kernel, rfl, by decide +kernel, by decide +kernel⟩
def g_law : Rn → Fr Out := (gSeq (gParF [2, 3] [.dat (fCall 2 S_z01_law_odd (fCons (fVar 1) (fCons (fLst (fCons (fCall 2 drawS (fCons (fVar 1) (fCons (f2 sPow (fC (.int 10)) (fC (.int 9))) fNil))) fNil)) fNil))), .dat (fCall 2 S_z01_law_odd (fCons (fVar 1) (fCons (fLst (fCons (fC (.str "x")) (fCons (fTup (fCons (fC (.int 3)) (fCons (fC (.str "y")) fNil))) fNil))) fNil)))]) (gSeq (gParF [4, 5] [.dat (fCall 2 S_z01_law_odd (fCons (fVar 1) (fCons (fLst (fCons (fLst (fCons (fC (.int 4)) fNil)) fNil)) fNil))), .dat (fCall 0 S__law_codes fNil)]) (gSeq (gFor (fun ρ => Fr.bind ((fCall 3 S__law_made_errors (fCons (fVar 2) (fCons (fVar 3) (fCons (fVar 4) fNil)))) ρ) sEnumA) (.tup 2 (.cons (.nm 6) (.cons (.nm 7) .nil))) (gSeq (gSet 8 (fIf (fB (f2 sIn (f2 sIx (fVar 5) (fVar 6)) (fTup (fCons (fC (.str "UnlikeLogs")) (fCons (fC (.str "EmptyLot")) (fCons (fC (.str "InvalidWeights")) (fCons (fC (.str "NothingLeft")) fNil))))))) (fTup fNil) (fTup (fCons (fVar 2) fNil)))) (gSeq (gSet 8 (fIf (fB (f2 sIn (f2 sIx (fVar 5) (fVar 6)) (fTup (fCons (fC (.str "InvalidStep")) (fCons (fC (.str "TooMany")) fNil))))) (fTup (fCons (fVar 2) (fCons (fVar 3) fNil))) (fIf (fB (f2 sEq (f2 sIx (fVar 5) (fVar 6)) (fC (.str "Parted")))) (fTup (fCons (fVar 2) (fCons (fVar 3) (fCons (fVar 4) fNil)))) (fVar 8)))) (gSeq (gIf (fNot (fT (fCall 2 (S__law_same 5) (fCons (fLst (fCons (f1 (sEFld (ETL "code") "code") (fVar 7)) (fCons (fCall 1 S_z01_law_field (fCons (fVar 7) fNil)) fNil))) (fCons (fLst (fCons (f2 sIx (fVar 5) (fVar 6)) (fCons (fVar 8) fNil))) fNil))))) (gRet (fC (.bool false))) gPass) (gSeq (gIf (fB (f2 sNe (fCall 1 S__law_kinds_of (fCons (fVar 7) fNil)) (fLc (fun ρ => Fr.bind ((fC (.int 27)) ρ) sR1) (.nm 10) [10] fYes (f2 sEq (fVar 10) (fVar 6))))) (gRet (fC (.bool false))) gPass) (gSeq (gSet 9 (fLst (fCons (f1 (sIsE ALLE (isAL "LogError")) (fVar 7)) (fCons (f1 (sIsE ALLE (isAL "Missing")) (fVar 7)) (fCons (f1 (sIsE ALLE (isAL "ValueError")) (fVar 7)) (fCons (f1 (sIsE ALLE (isAL "LookupError")) (fVar 7)) fNil)))))) (gIf (fOr (fB (f2 sNe (fVar 9) (fLst (fCons (f2 sLt (fVar 6) (fC (.int 23))) (fCons (fChain sLe sLt (fC (.int 23)) (fVar 6) (fC (.int 26))) (fCons (f2 sLt (fVar 6) (fC (.int 23))) (fCons (f2 sGe (fVar 6) (fC (.int 23))) fNil))))))) (fB (f2 sNe (f1 (sIsE ALLE (isAL "IndexError")) (fVar 7)) (f2 sEq (fVar 6) (fC (.int 26)))))) (gRet (fC (.bool false))) gPass))))))) (gRet (fCall 2 (S__law_same 5) (fCons (fLc (fW (fCall 3 S__law_named_errors (fCons (fVar 2) (fCons (fVar 3) (fCons (fVar 4) fNil))))) (.nm 7) [7] fYes (fCall 1 S_z01_law_field (fCons (fVar 7) fNil))) (fCons (fLc (fW (fCall 3 S__law_made_errors (fCons (fVar 2) (fCons (fVar 3) (fCons (fVar 4) fNil))))) (.nm 7) [7] fYes (fCall 1 S_z01_law_field (fCons (fVar 7) fNil))) fNil)))))))
theorem ok_law {f : Addr} {fd : FuncData} (T : Tx mg) (F : FnP K "law" (top 42) f fd) {f_bag : Addr} {fd_bag : FuncData} (G : FnOk P w K mg base (L2.CX P w) 1 f_bag fd_bag ["_law_script"] (spBag K)) (gB : mg "_law_bag" = some (.ref f_bag)) (kB : PySem.W.keepIn K (.ref f_bag) = true) (bB : Binds K fd_bag ["_law_script"] [])  {f__law_codes : Addr} {fd__law_codes : FuncData} (D__law_codes : Df P w K mg base 1 "_law_codes" [] 0 S__law_codes f__law_codes fd__law_codes) {f__law_draw : Addr} {fd__law_draw : FuncData} (D__law_draw : Df P w K mg base 1 "_law_draw" ["_law_bag_here", "_law_many"] 2 drawS f__law_draw fd__law_draw) {f__law_field : Addr} {fd__law_field : FuncData} (D__law_field : Df P w K mg base 2 "_law_field" ["_law_e"] 1 S_z01_law_field f__law_field fd__law_field) {f__law_kinds_of : Addr} {fd__law_kinds_of : FuncData} (D__law_kinds_of : Df P w K mg base 1 "_law_kinds_of" ["_law_e"] 1 S__law_kinds_of f__law_kinds_of fd__law_kinds_of) {f__law_made_errors : Addr} {fd__law_made_errors : FuncData} (D__law_made_errors : Df P w K mg base 3 "_law_made_errors" ["_law_a", "_law_b", "_law_c"] 3 S__law_made_errors f__law_made_errors fd__law_made_errors) {f__law_named_errors : Addr} {fd__law_named_errors : FuncData} (D__law_named_errors : Df P w K mg base 3 "_law_named_errors" ["_law_a", "_law_b", "_law_c"] 3 S__law_named_errors f__law_named_errors fd__law_named_errors) {f__law_odd : Addr} {fd__law_odd : FuncData} (D__law_odd : Df P w K mg base 3 "_law_odd" ["_law_bag_here", "_law_others"] 2 S_z01_law_odd f__law_odd fd__law_odd) {f__law_same : Addr} {fd__law_same : FuncData} (D__law_same : Df P w K mg base 5 "_law_same" ["_law_found", "_law_due"] 2 (S__law_same 5) f__law_same fd__law_same) (EF_code : EFok K mg (ETL "code") "code") (IE_IndexError : IsEf K mg ALLE (isAL "IndexError") (.type "IndexError")) {C_LogError : Addr} (NM_LogError : mg "LogError" = some (.ref C_LogError)) (IE_LogError : IsEf K mg ALLE (isAL "LogError") (.ref C_LogError)) (IE_LookupError : IsEf K mg ALLE (isAL "LookupError") (.type "LookupError")) {C_Missing : Addr} (NM_Missing : mg "Missing" = some (.ref C_Missing)) (IE_Missing : IsEf K mg ALLE (isAL "Missing") (.ref C_Missing)) (IE_ValueError : IsEf K mg ALLE (isAL "ValueError") (.type "ValueError")) (pure_law : (g_law (bagR 9)).wp Yes) : FnOk P w K mg base CX0 6 f fd ["_law_script"] (spLaw K) := by
  refine F.ok sc_law (fun vs H Q E h => ?_) fun cdv A outer s H vs Q E hr h => ?_
  · obtain ⟨a, ns, rfl, _⟩ := h
    rfl
  obtain ⟨a, ns, rfl, hS, q⟩ := h
  refine ⟨_, PSs.nox (pss_cons (u := tDS ⟨K, mg⟩ Z0 g_law) (ps_set (i := 1) sc_law.nd rfl (by first | exact Or.inl rfl | exact Or.inr rfl) (pe_call (E := fun _ _ _ => False) G (hr.mono (by decide)) rfl gB kB bB .nil (passes_call takes0 fun _ _ _ _ z => z) (pa_cons (pv 0) pa_nil))) (by exact (xb_cons (xs_par2 (i := 2) (j := 3) rfl sc_law.nd (xaf_dat (xe_call takes0 D__law_odd (hr.mono (by decide)) (xa_cons (xe_var 1) (xa_cons (xe_lst (xa_cons (xe_call takes0 D__law_draw (hr.mono (by decide)) (xa_cons (xe_var 1) (xa_cons (xe_pow xe_int xe_int) xa_nil))) xa_nil)) xa_nil))) (xaf_dat (xe_call takes0 D__law_odd (hr.mono (by decide)) (xa_cons (xe_var 1) (xa_cons (xe_lst (xa_cons xe_str (xa_cons (xe_tup (xa_cons xe_int (xa_cons xe_str xa_nil))) xa_nil))) xa_nil))) xaf_nil))) (xb_cons (xs_par2 (i := 4) (j := 5) rfl sc_law.nd (xaf_dat (xe_call takes0 D__law_odd (hr.mono (by decide)) (xa_cons (xe_var 1) (xa_cons (xe_lst (xa_cons (xe_lst (xa_cons xe_int xa_nil)) xa_nil)) xa_nil))) (xaf_dat (xe_call0 takes0 D__law_codes (hr.mono (by decide))) xaf_nil))) (xb_cons (xs_for PassesOwn.never rfl (xi_enumA T.f_enumerate (xe_call takes0 D__law_made_errors (hr.mono (by decide)) (xa_cons (xe_var 2) (xa_cons (xe_var 3) (xa_cons (xe_var 4) xa_nil))))) (xg_tup rfl (xgs_cons (xg_nm sc_law.nd) (xgs_cons (xg_nm sc_law.nd) xgs_nil))) (xb_cons (xs_set (i := 8) sc_law.nd (xe_if (xt_in hr (xe_sub_ (xe_var 5) (xe_var 6) (fun _ _ => rfl)) (xe_tup (xa_cons xe_str (xa_cons xe_str (xa_cons xe_str (xa_cons xe_str xa_nil)))))) (xe_tup xa_nil) (xe_tup (xa_cons (xe_var 2) xa_nil)))) (xb_cons (xs_set (i := 8) sc_law.nd (xe_if (xt_in hr (xe_sub_ (xe_var 5) (xe_var 6) (fun _ _ => rfl)) (xe_tup (xa_cons xe_str (xa_cons xe_str xa_nil)))) (xe_tup (xa_cons (xe_var 2) (xa_cons (xe_var 3) xa_nil))) (xe_if (xt_eq hr (xe_sub_ (xe_var 5) (xe_var 6) (fun _ _ => rfl)) xe_str) (xe_tup (xa_cons (xe_var 2) (xa_cons (xe_var 3) (xa_cons (xe_var 4) xa_nil)))) (xe_var 8)))) (xb_cons (xs_if (xt_not (xt_val (xe_call takes0 D__law_same (hr.mono (by decide)) (xa_cons (xe_lst (xa_cons (xe_efld EF_code (xe_var 7)) (xa_cons (xe_call takes0 D__law_field (hr.mono (by decide)) (xa_cons (xe_var 7) xa_nil)) xa_nil))) (xa_cons (xe_lst (xa_cons (xe_sub_ (xe_var 5) (xe_var 6) (fun _ _ => rfl)) (xa_cons (xe_var 8) xa_nil))) xa_nil))))) (xb_one (xs_ret xe_bl)) xb_nil') (xb_cons (xs_if (xt_ne hr (xe_call takes0 D__law_kinds_of (hr.mono (by decide)) (xa_cons (xe_var 7) xa_nil)) (xe_lc [("_law_k", 10)] rfl sc_law.nd (xi_range1 T.f_range xe_int) (blkOk_by (N := ["_law_script", "_law_bag_here", "_law_a", "_law_b", "_law_c", "_law_codes_here", "_law_place", "_law_e", "_law_due", "_law_above", "_law_k"]) (sc := defScope (top 42)) (by decide +kernel)) (fun _ _ _ _ _ => (xg_nm sc_law.nd)) (fun _ _ _ _ _ => xts_nil) (fun _ _ _ _ _ => (xe_eq hr (xe_var 10) (xe_var 6))))) (xb_one (xs_ret xe_bl)) xb_nil') (xb_cons (xs_set (i := 9) sc_law.nd (xe_lst (xa_cons (xe_isEo NM_LogError IE_LogError T.f_isinstance (xe_var 7)) (xa_cons (xe_isEo NM_Missing IE_Missing T.f_isinstance (xe_var 7)) (xa_cons (xe_isEb IE_ValueError T.f_isinstance T.f_ValueError (by decide +kernel) (xe_var 7)) (xa_cons (xe_isEb IE_LookupError T.f_isinstance T.f_LookupError (by decide +kernel) (xe_var 7)) xa_nil)))))) (xb_one (xs_if (xt_w (xw_or (xt_ne hr (xe_var 9) (xe_lst (xa_cons (xe_lt (xe_var 6) xe_int) (xa_cons (xe_lelt xe_int (xe_var 6) xe_int) (xa_cons (xe_lt (xe_var 6) xe_int) (xa_cons (xe_ge (xe_var 6) xe_int) xa_nil)))))) (xw_or1 (xt_ne hr (xe_isEb IE_IndexError T.f_isinstance T.f_IndexError (by decide +kernel) (xe_var 7)) (xe_eq hr (xe_var 6) xe_int))))) (xb_one (xs_ret xe_bl)) xb_nil')))))))) (xb_one (xs_ret (xe_call takes0 D__law_same (hr.mono (by decide)) (xa_cons (xe_lc [("_law_e", 7)] rfl sc_law.nd (xi_any (xe_call takes0 D__law_named_errors (hr.mono (by decide)) (xa_cons (xe_var 2) (xa_cons (xe_var 3) (xa_cons (xe_var 4) xa_nil))))) (blkOk_by (N := ["_law_script", "_law_bag_here", "_law_a", "_law_b", "_law_c", "_law_codes_here", "_law_place", "_law_e", "_law_due", "_law_above", "_law_k"]) (sc := defScope (top 42)) (by decide +kernel)) (fun _ _ _ _ _ => (xg_nm sc_law.nd)) (fun _ _ _ _ _ => xts_nil) (fun _ _ _ _ _ => (xe_call takes0 D__law_field (hr.mono (by decide)) (xa_cons (xe_var 7) xa_nil)))) (xa_cons (xe_lc [("_law_e", 7)] rfl sc_law.nd (xi_any (xe_call takes0 D__law_made_errors (hr.mono (by decide)) (xa_cons (xe_var 2) (xa_cons (xe_var 3) (xa_cons (xe_var 4) xa_nil))))) (blkOk_by (N := ["_law_script", "_law_bag_here", "_law_a", "_law_b", "_law_c", "_law_codes_here", "_law_place", "_law_e", "_law_due", "_law_above", "_law_k"]) (sc := defScope (top 42)) (by decide +kernel)) (fun _ _ _ _ _ => (xg_nm sc_law.nd)) (fun _ _ _ _ _ => xts_nil) (fun _ _ _ _ _ => (xe_call takes0 D__law_field (hr.mono (by decide)) (xa_cons (xe_var 7) xa_nil)))) xa_nil)))))))))), ?_⟩
  refine ⟨_, rfl, a, ns, rfl, hS, fun b c cs m H1 sm nb nc hb hc m0 m1 => ?_⟩
  exact law_end (bag_start (σ := (L2.start ["_law_script", "_law_bag_here", "_law_a", "_law_b", "_law_c", "_law_codes_here", "_law_place", "_law_e", "_law_due", "_law_above", "_law_k"] [.ref a]).set 1 (some (.ref b))) (n := 9) (v := some (.ref a)) hb hc ⟨m0, m1⟩ rfl) pure_law q
end
end TM
namespace TM
open PySem PySem.Spec PyProof.Rows L2
def g_is_row : Rn → Fr Out := (gRet (fAndV (f1 (sIsi .tuple) (fVar 0)) (fAndV (f2 sEq (f1 sLen (fVar 0)) (fC (.int 2))) (fAndV (fCall 1 S_is_name (fCons (f2 sIx (fVar 0) (fC (.int 0))) fNil)) (f1 (sIsi2 .list .tuple) (f2 sIx (fVar 0) (fC (.int 1))))))))
def S_is_row : List Sl → Fr Sl := fnSem 1 g_is_row
end TM
namespace TM
open PySem PySem.Spec PyProof.Rows L2
def g__law_longer : Rn → Fr Out := (gSeq (gSet 2 (fLst fNil)) (gSeq (gFor (fW (fVar 0)) (.nm 3) (gSet 2 (f2 sAdd (fVar 2) (fLc (fun ρ => Fr.bind ((f2 sAdd (fVar 1) (fC (.int 1))) ρ) sR1) (.nm 4) [4] fYes (f2 sAdd (fVar 3) (fTup (fCons (fVar 4) fNil))))))) (gRet (fVar 2))))
def S__law_longer : List Sl → Fr Sl := fnSem 5 g__law_longer
def g__law_points : Rn → Fr Out := (gSeq (gSet 1 (fLst (fCons (fTup fNil) fNil))) (gSeq (gFor (fW (fVar 0)) (.nm 2) (gSet 1 (fCall 2 S__law_longer (fCons (fVar 1) (fCons (fVar 2) fNil))))) (gRet (fLc (fW (f1 sSorted (fLc (fW (fVar 1)) (.nm 4) [4] fYes (fTup (fCons (f1 sSum (fVar 4)) (fCons (fVar 4) fNil)))))) (.nm 3) [3] fYes (f2 sIx (fVar 3) (fC (.int 1)))))))
def S__law_points : List Sl → Fr Sl := fnSem 5 g__law_points
end TM
namespace TM.ZG
open PySem
/-- true: a list, false: a tuple -/
def srcA : Bool → Heap → Addr → Array Value → Prop
  | true, h, l, xs => h.IsList l xs
  | false, h, l, xs => h.IsTuple l xs
def itA : Bool → Heap → Addr → Addr → Nat → Prop
  | true, h, i, l, k => h.IsListIter i l k
  | false, h, i, l, k => h.IsTupleIter i l k
theorem srcA.ext {b : Bool} {h h' : Heap} {l c : Addr} {xs : Array Value} (p : srcA b h l xs) (e : Heap.ExtBut c h h') (ne : l ≠ c) : srcA b h' l xs := by cases b <;> exact p.extBut e ne
theorem itA.to {b : Bool} {h h' : Heap} {i l : Addr} {k : Nat} (p : itA b h i l k) (e : ∀ o, h.get? i = some o → h'.get? i = some o) : itA b h' i l k := by cases b <;> exact p.at e
theorem itA.ob {b : Bool} {h : Heap} {i l : Addr} {k : Nat} (p : itA b h i l k) : ∃ o, h.get? i = some o ∧ ∀ v, o.data ≠ .cell v := by
  cases b <;> (obtain ⟨o, ho, _, hd⟩ := p; exact ⟨o, ho, fun v q => by rw [hd] at q; cases q⟩)
end TM.ZG
namespace TM.ZG
open PySem
end TM.ZG
namespace TM
open PySem PySem.Spec PyProof.Rows L2
def g__law_other_field (ET : Str → List Str) : Rn → Fr Out := (gSeq (gIf (fB (f2 sEq (f1 (sEFld (ET "code") "code") (fVar 0)) (fC (.str "Ring")))) (gRet (fTup (fCons (f1 (sEFld (ET "process") "process") (fVar 0)) fNil))) gPass) (gSeq (gIf (fB (f2 sEq (f1 (sEFld (ET "code") "code") (fVar 0)) (fC (.str "TooMany")))) (gRet (fTup (fCons (f1 (sEFld (ET "subject") "subject") (fVar 0)) (fCons (f1 (sEFld (ET "most") "most") (fVar 0)) fNil)))) gPass) (gSeq (gIf (fB (f2 sEq (f1 (sEFld (ET "code") "code") (fVar 0)) (fC (.str "Uneven")))) (gRet (fTup (fCons (f1 (sEFld (ET "block") "block") (fVar 0)) fNil))) gPass) (gSeq (gIf (fB (f2 sEq (f1 (sEFld (ET "code") "code") (fVar 0)) (fC (.str "UnknownStep")))) (gRet (fTup (fCons (f1 (sEFld (ET "step") "step") (fVar 0)) fNil))) gPass) (gSeq (gIf (fB (f2 sEq (f1 (sEFld (ET "code") "code") (fVar 0)) (fC (.str "Full")))) (gRet (fTup (fCons (f1 (sEFld (ET "limit") "limit") (fVar 0)) fNil))) gPass) (gRet (fIf (fB (f2 sEq (f1 (sEFld (ET "code") "code") (fVar 0)) (fC (.str "InvalidPage")))) (fTup (fCons (f1 (sEFld (ET "line") "line") (fVar 0)) fNil)) (fTup fNil))))))))
def S__law_other_field (ET : Str → List Str) : List Sl → Fr Sl := fnSem 1 (g__law_other_field ET)
def g__law_field (ET : Str → List Str) : Rn → Fr Out := (gSeq (gIf (fB (f2 sIn (f1 (sEFld (ET "code") "code") (fVar 0)) (fTup (fCons (fC (.str "InvalidName")) (fCons (fC (.str "InvalidPoint")) (fCons (fC (.str "InvalidMoment")) (fCons (fC (.str "InvalidNumber")) (fCons (fC (.str "InvalidLimit")) fNil)))))))) (gRet (fTup (fCons (f1 (sEFld (ET "value") "value") (fVar 0)) fNil))) gPass) (gSeq (gIf (fB (f2 sIn (f1 (sEFld (ET "code") "code") (fVar 0)) (fTup (fCons (fC (.str "InvalidRow")) (fCons (fC (.str "InvalidClause")) (fCons (fC (.str "InvalidTests")) (fCons (fC (.str "InvalidText")) (fCons (fC (.str "InvalidCommand")) fNil)))))))) (gRet (fTup (fCons (f1 (sEFld (ET "at") "at") (fVar 0)) fNil))) gPass) (gSeq (gIf (fB (f2 sIn (f1 (sEFld (ET "code") "code") (fVar 0)) (fTup (fCons (fC (.str "DuplicateName")) (fCons (fC (.str "UnknownProcess")) (fCons (fC (.str "UnknownName")) fNil)))))) (gRet (fTup (fCons (f1 (sEFld (ET "name") "name") (fVar 0)) fNil))) gPass) (gSeq (gIf (fB (f2 sIn (f1 (sEFld (ET "code") "code") (fVar 0)) (fTup (fCons (fC (.str "DuplicateMessage")) (fCons (fC (.str "Unsent")) fNil))))) (gRet (fTup (fCons (f1 (sEFld (ET "message") "message") (fVar 0)) fNil))) gPass) (gSeq (gIf (fB (f2 sEq (f1 (sEFld (ET "code") "code") (fVar 0)) (fC (.str "InvalidStep")))) (gRet (fTup (fCons (f1 (sEFld (ET "process") "process") (fVar 0)) (fCons (f1 (sEFld (ET "index") "index") (fVar 0)) fNil)))) gPass) (gSeq (gIf (fB (f2 sEq (f1 (sEFld (ET "code") "code") (fVar 0)) (fC (.str "Parted")))) (gRet (fTup (fCons (f1 (sEFld (ET "at") "at") (fVar 0)) (fCons (f1 (sEFld (ET "one") "one") (fVar 0)) (fCons (f1 (sEFld (ET "other") "other") (fVar 0)) fNil))))) gPass) (gRet (fCall 1 (S__law_other_field ET) (fCons (fVar 0) fNil)))))))))
end TM
namespace TM
open PySem PySem.Spec PyProof.Rows L2
section
variable {α β : Type}
@[simp] theorem bind_ret {a : α} {f : α → Fr β} : (Fr.ret a).bind f = f a := rfl
@[simp] theorem bind_bad {f : α → Fr β} : (Fr.bad : Fr α).bind f = .bad := rfl
@[simp] theorem bind_exc {x : PyData} {f : α → Fr β} : (Fr.exc x : Fr α).bind f = .exc x := rfl
@[simp] theorem bindX_ret {ρ : Rn} {a : α} {f : α → Fr Out} : (Fr.ret a).bindX ρ f = f a := rfl
@[simp] theorem bindX_bad {ρ : Rn} {f : α → Fr Out} : (Fr.bad : Fr α).bindX ρ f = .bad := rfl
@[simp] theorem bindX_exc {ρ : Rn} {x : PyData} {f : α → Fr Out} : (Fr.exc x : Fr α).bindX ρ f = .ret (.ex ρ x) := rfl
@[simp] theorem noX_ret {a : α} : (Fr.ret a).noX = .ret a := rfl
@[simp] theorem noX_bad : (Fr.bad : Fr α).noX = .bad := rfl
@[simp] theorem noX_exc {x : PyData} : (Fr.exc x : Fr α).noX = .bad := rfl
@[simp] theorem wp_ret {a : α} {Q : α → Prop} : (Fr.ret a).wp Q = Q a := rfl
@[simp] theorem wp_bad {Q : α → Prop} : (Fr.bad : Fr α).wp Q = False := rfl
@[simp] theorem ofO_some {a : α} : ofO (some a) = .ret a := rfl
@[simp] theorem ofO_none : ofO (none : Option α) = .bad := rfl
end
@[simp] theorem fVar_eq {i : Nat} {ρ : Rn} : fVar i ρ = match ρ[i]? with
  | some (some s) => .ret s
  | _ => .bad := rfl
@[simp] theorem fC_eq {d : PyData} {ρ : Rn} : fC d ρ = .ret (.d d) := rfl
@[simp] theorem f2_eq {g : Sl → Sl → Fr Sl} {fa fb : Rn → Fr Sl} {ρ : Rn} : f2 g fa fb ρ = (fa ρ).bind fun x => (fb ρ).bind fun y => g x y := rfl
@[simp] theorem f1_eq {g : Sl → Fr Sl} {fa : Rn → Fr Sl} {ρ : Rn} : f1 g fa ρ = (fa ρ).bind g := rfl
@[simp] theorem fAndV_eq {fa fb : Rn → Fr Sl} {ρ : Rn} : fAndV fa fb ρ = (fa ρ).bind fun x => (toB x).bind fun k => if k = true then fb ρ else .ret (.d (.bool false)) := rfl
@[simp] theorem fOrV_eq {fa fb : Rn → Fr Sl} {ρ : Rn} : fOrV fa fb ρ = (fa ρ).bind fun x => (toB x).bind fun k => if k = true then .ret (.d (.bool true)) else fb ρ := rfl
@[simp] theorem fNotV_eq {fa : Rn → Fr Sl} {ρ : Rn} : fNotV fa ρ = (fa ρ).bind fun x => (toB x).bind fun k => .ret (.d (.bool (!k))) := rfl
@[simp] theorem toB_eq {b : Bool} : toB (.d (.bool b)) = .ret b := rfl
@[simp] theorem toD_eq {x : PyData} : toD (.d x) = .ret x := rfl
@[simp] theorem toP_eq {x : PyData} : toP (.d x) = some x := rfl
@[simp] theorem toS_eq {x : Str} : toS (.d (.str x)) = .ret x := rfl
@[simp] theorem fChain_eq {g g' : Sl → Sl → Fr Sl} {fa fb fc : Rn → Fr Sl} {ρ : Rn} : fChain g g' fa fb fc ρ = (fa ρ).bind fun x => (fb ρ).bind fun y => (g x y).bind fun z => (toB z).bind fun k => if k = true then (fc ρ).bind fun w => g' y w else .ret (.d (.bool false)) := rfl
@[simp] theorem fIf_eq {ft : Rn → Fr Bool} {fa fb : Rn → Fr Sl} {ρ : Rn} : fIf ft fa fb ρ = (ft ρ).bind fun k => if k = true then fa ρ else fb ρ := rfl
@[simp] theorem fT_eq {fa : Rn → Fr Sl} {ρ : Rn} : fT fa ρ = (fa ρ).bind truth := rfl
@[simp] theorem fB_eq {fa : Rn → Fr Sl} {ρ : Rn} : fB fa ρ = (fa ρ).bind toB := rfl
@[simp] theorem fNot_eq {ft : Rn → Fr Bool} {ρ : Rn} : fNot ft ρ = (ft ρ).bind fun b => .ret (!b) := rfl
@[simp] theorem fAnd_eq {ft fu : Rn → Fr Bool} {ρ : Rn} : fAnd ft fu ρ = (ft ρ).bind fun b => if b = true then fu ρ else .ret false := rfl
@[simp] theorem fOr_eq {ft fu : Rn → Fr Bool} {ρ : Rn} : fOr ft fu ρ = (ft ρ).bind fun b => if b = true then .ret true else fu ρ := rfl
@[simp] theorem truth_eq {b : Bool} : truth (.d (.bool b)) = .ret b := rfl
@[simp] theorem fNil_eq {ρ : Rn} : fNil ρ = .ret [] := rfl
@[simp] theorem fCons_eq {fa : Rn → Fr Sl} {fr : Rn → Fr (List Sl)} {ρ : Rn} : fCons fa fr ρ = (fa ρ).bind fun x => (fr ρ).bind fun xs => .ret (x :: xs) := rfl
@[simp] theorem fS1_eq {g : Str → Sl → Fr Sl} {fa fb : Rn → Fr Sl} {ρ : Rn} : fS1 g fa fb ρ = (fa ρ).bind fun x => (toS x).bind fun z => (fb ρ).bind fun y => g z y := rfl
@[simp] theorem gRet_eq {f : Rn → Fr Sl} {ρ : Rn} : gRet f ρ = (f ρ).bindX ρ fun s => .ret (.rt s) := rfl
@[simp] theorem gIf_eq {ft : Rn → Fr Bool} {g g' : Rn → Fr Out} {ρ : Rn} : gIf ft g g' ρ = (ft ρ).bindX ρ fun b => if b = true then g ρ else g' ρ := rfl
@[simp] theorem gPass_eq {ρ : Rn} : gPass ρ = .ret (.nx ρ) := rfl
@[simp] theorem gBreak_eq {ρ : Rn} : gBreak ρ = .ret (.bk ρ) := rfl
@[simp] theorem gSeq_eq {g g' : Rn → Fr Out} {ρ : Rn} : gSeq g g' ρ = (g ρ).bind fun o => match o with
  | .nx ρ' => g' ρ'
  | o => .ret o := rfl
@[simp] theorem gSet_eq {i : Nat} {f : Rn → Fr Sl} {ρ : Rn} : gSet i f ρ = (f ρ).bindX ρ fun s => (toD s).bind fun x => .ret (.nx (ρ.set i (some (.d x)))) := rfl
@[simp] theorem gAsg_eq {t : Tg} {f : Rn → Fr Sl} {ρ : Rn} : gAsg t f ρ = (f ρ).bindX ρ fun s => (toD s).bind fun x => (ofO (setT t x ρ)).bind fun ρ' => .ret (.nx ρ') := rfl
@[simp] theorem gParF_eq {is : List Nat} {fs : List FArg} {ρ : Rn} : gParF is fs ρ = (evalF fs ρ).bindX ρ fun ss => .ret (.nx (fillR is ss ρ)) := rfl
@[simp] theorem evalF_nil {ρ : Rn} : evalF [] ρ = .ret [] := rfl
@[simp] theorem evalF_dat {f : Rn → Fr Sl} {r : List FArg} {ρ : Rn} : evalF (.dat f :: r) ρ = (f ρ).bind fun s => (toD s).bind fun x => (evalF r ρ).bind fun xs => .ret (.d x :: xs) := rfl
@[simp] theorem evalF_fre {s : Sh} {f : Rn → Fr PyData} {r : List FArg} {ρ : Rn} : evalF (.fre s f :: r) ρ = (f ρ).bind fun x => (evalF r ρ).bind fun xs => .ret (.own s x :: xs) := rfl
@[simp] theorem outS_rt {s : Sl} : outS (.rt s) = .ret (frz s) := rfl
@[simp] theorem outS_nx {ρ : Rn} : outS (.nx ρ) = .ret (.d .none) := rfl
@[simp] theorem outS_ex {ρ : Rn} {x : PyData} : outS (.ex ρ x) = .exc x := rfl
@[simp] theorem frz_d {x : PyData} : frz (.d x) = .d x := rfl
@[simp] theorem line_eq {n : Nat} (h : n ≤ 16777216) : line n = .ret () := if_pos h
@[simp] theorem fCall_eq {m : Nat} {fs : List Sl → Fr Sl} {fr : Rn → Fr (List Sl)} {ρ : Rn} : fCall m fs fr ρ = (fr ρ).bind (callS m fs) := rfl
@[simp] theorem fCallK_eq {m n : Nat} {pi : List Nat} {fs : List Sl → Fr Sl} {fr : Rn → Fr (List Sl)} {ρ : Rn} : fCallK m n pi fs fr ρ = (fr ρ).bind fun ss => if ss.length = n then callS m fs (ord (.d .none) pi ss) else .bad := rfl
@[simp] theorem callS1 {fs : List Sl → Fr Sl} {x : PyData} : callS 1 fs [.d x] = fs [.d x] := rfl
@[simp] theorem callS2 {fs : List Sl → Fr Sl} {x y : PyData} : callS 2 fs [.d x, .d y] = fs [.d x, .d y] := rfl
@[simp] theorem callS2b {fs : List Sl → Fr Sl} {y : PyData} : callS 2 fs [.bag, .d y] = fs [.bag, .d y] := rfl
@[simp] theorem callS3 {fs : List Sl → Fr Sl} {x y z : PyData} : callS 3 fs [.d x, .d y, .d z] = fs [.d x, .d y, .d z] := rfl
@[simp] theorem sLe_eq {i j : Int} : sLe (.d (.int i)) (.d (.int j)) = .ret (.d (.bool (decide (i ≤ j)))) := rfl
@[simp] theorem sLt_eq {i j : Int} : sLt (.d (.int i)) (.d (.int j)) = .ret (.d (.bool (decide (i < j)))) := rfl
@[simp] theorem sSub_eq {i j : Int} : sSub (.d (.int i)) (.d (.int j)) = .ret (.d (.int (i - j))) := rfl
@[simp] theorem sNeg_eq {i : Int} : sNeg (.d (.int i)) = .ret (.d (.int (-i))) := rfl
@[simp] theorem sAdd_int {i j : Int} : sAdd (.d (.int i)) (.d (.int j)) = .ret (.d (.int (i + j))) := rfl
@[simp] theorem sIsi_eq {t : Ty} {x : PyData} : sIsi t (.d x) = if notD x = true then .ret (.d (.bool (isT t x))) else .bad := rfl
theorem sLen_str {z : Str} (h : z.length ≤ 16777216) : sLen (.d (.str z)) = .ret (.d (.int z.length)) := by
  show (line z.length).bind _ = _
  rw [line_eq h]
  rfl
@[simp] theorem sLen_tup {xs : List PyData} : sLen (.d (.tuple xs)) = .ret (.d (.int xs.length)) := rfl
@[simp] theorem sLen_lst {xs : List PyData} : sLen (.d (.list xs)) = .ret (.d (.int xs.length)) := rfl
theorem eqv_int {i j : Int} : PyData.eqv (.int i) (.int j) = decide (i = j) := by
  by_cases h : i = j <;> simp [PyData.eqv, h]
theorem eqv_str {i j : Str} : PyData.eqv (.str i) (.str j) = decide (i = j) := by
  by_cases h : i = j <;> simp [PyData.eqv, h]
@[simp] theorem sNe_int {i j : Int} : sNe (.d (.int i)) (.d (.int j)) = .ret (.d (.bool (!decide (i = j)))) := by
  show (if eqOk (.int i) (.int j) = true then Fr.ret (Sl.d (PyData.bool (!PyData.eqv (.int i) (.int j)))) else .bad) = _
  rw [if_pos (show eqOk (.int i) (.int j) = true from rfl), eqv_int]
@[simp] theorem sEq_int {i j : Int} : sEq (.d (.int i)) (.d (.int j)) = .ret (.d (.bool (decide (i = j)))) := by
  show (if eqOk (.int i) (.int j) = true then Fr.ret (Sl.d (PyData.bool (PyData.eqv (.int i) (.int j)))) else .bad) = _
  rw [if_pos (show eqOk (.int i) (.int j) = true from rfl), eqv_int]
@[simp] theorem sNe_str {i j : Str} : sNe (.d (.str i)) (.d (.str j)) = .ret (.d (.bool (!decide (i = j)))) := by
  show (if eqOk (.str i) (.str j) = true then Fr.ret (Sl.d (PyData.bool (!PyData.eqv (.str i) (.str j)))) else .bad) = _
  rw [if_pos (show eqOk (.str i) (.str j) = true from rfl), eqv_str]
@[simp] theorem sEq_str {i j : Str} : sEq (.d (.str i)) (.d (.str j)) = .ret (.d (.bool (decide (i = j)))) := by
  show (if eqOk (.str i) (.str j) = true then Fr.ret (Sl.d (PyData.bool (PyData.eqv (.str i) (.str j)))) else .bad) = _
  rw [if_pos (show eqOk (.str i) (.str j) = true from rfl), eqv_str]
theorem lcGo_pure {t : Tg} {ρ0 : Rn} {ft : Rn → Fr Bool} {fe : Rn → Fr PyData} (h : PyData → PyData) : ∀ {xs : List PyData}, (∀ x ∈ xs, ∃ ρ1, setT t x ρ0 = some ρ1 ∧ ft ρ1 = .ret true ∧ fe ρ1 = .ret (h x)) → lcGo t ρ0 ft fe xs = .ret (xs.map h)
  | [], _ => rfl
  | x :: xs, hx => by
    obtain ⟨ρ1, h1, h2, h3⟩ := hx x List.mem_cons_self
    unfold lcGo
    rw [h1, ofO_some, bind_ret, h2, noX_ret, bind_ret, if_pos rfl, h3, noX_ret, bind_ret, lcGo_pure h fun y hy => hx y (List.mem_cons_of_mem _ hy)]
    rfl
/-- a comprehension's value -/
theorem fLc_pure {fi : Rn → Fr (List PyData)} {t : Tg} {vs : List Nat} {ft : Rn → Fr Bool} {fe : Rn → Fr Sl} {ρ : Rn} {xs : List PyData} (h : PyData → PyData) (e : fi ρ = .ret xs) (hl : xs.length ≤ 16777216)
    (hx : ∀ x ∈ xs, ∃ ρ1, setT t x (wipeR ρ vs) = some ρ1 ∧ ft ρ1 = .ret true ∧ fe ρ1 = .ret (.d (h x))) : fLc fi t vs ft fe ρ = .ret (.d (.list (xs.map h))) := by
  show ((fi ρ).bind fun xs => (line xs.length).bind fun _ => (lcGo t (wipeR ρ vs) ft (fD fe) xs).bind fun ds => .ret (PyData.list ds)).bind (fun x => Fr.ret (Sl.d x)) = _
  rw [e, bind_ret, line_eq hl, bind_ret, lcGo_pure h fun x hm => ?_]
  · rfl
  · obtain ⟨ρ1, h1, h2, h3⟩ := hx x hm
    exact ⟨ρ1, h1, h2, by show (fe ρ1).bind toD = _; rw [h3]; rfl⟩
theorem bools_map {α : Type} (p : α → Bool) : ∀ xs : List α, bools (xs.map fun x => .bool (p x)) = .ret (xs.map p)
  | [] => rfl
  | x :: xs => by
    show (bools (xs.map fun x => .bool (p x))).bind _ = _
    rw [bools_map p xs]
    rfl
theorem sAll_map {α : Type} (p : α → Bool) (xs : List α) : sAll (.d (.list (xs.map fun x => .bool (p x)))) = .ret (.d (.bool (xs.all p))) := by
  show (bools (xs.map fun x => .bool (p x))).bind _ = _
  rw [bools_map, bind_ret]
  congr 3
  induction xs with
  | nil => rfl
  | cons x xs ih => simp
theorem drawS_eq {n : Int} (h : n < 1073741824) : drawS [.bag, .d (.int n)] = .draw n fun i => .ret (.d (.int i)) := by
  unfold drawS
  simp [h]
end TM
namespace TM
open PySem PySem.Spec PyProof.Rows L2
abbrev sD (l : List Nat) : PyData := .str ⟨l.toArray⟩
theorem strS (x : Str) : x = ⟨x.cps.toList.toArray⟩ := by cases x; rfl
@[simp] theorem len_S (l : List Nat) : (⟨l.toArray⟩ : Str).length = l.length := by simp [Str.length]
theorem S_eq {a b : List Nat} : ((⟨a.toArray⟩ : Str) = ⟨b.toArray⟩) ↔ a = b := ⟨fun h => congrArg (fun x : Str => x.cps.toList) h, fun h => by rw [h]⟩
@[simp] theorem decS {a b : List Nat} : decide ((⟨a.toArray⟩ : Str) = ⟨b.toArray⟩) = decide (a = b) := by
  by_cases h : a = b
  · subst h; simp
  · rw [decide_eq_false h, decide_eq_false fun z => h (S_eq.mp z)]
def lets : List Nat := [97, 98, 99, 100, 101, 102, 103, 104, 105, 106, 107, 108, 109, 110, 111, 112, 113, 114, 115, 116, 117, 118, 119, 120, 121, 122]
theorem lets_eq : ("abcdefghijklmnopqrstuvwxyz" : Str) = ⟨lets.toArray⟩ := by decide +kernel
def low (c : Nat) : Bool := decide (c ∈ lets)
theorem low_iff {c : Nat} : low c = true ↔ 97 ≤ c ∧ c ≤ 122 := by
  unfold low lets
  rw [decide_eq_true_iff]
  simp only [List.mem_cons, List.not_mem_nil, or_false]
  omega
def oneD (c : Nat) : PyData := .str ⟨#[c]⟩
theorem sIn_low (c : Nat) : sIn (.d (oneD c)) (.d (.str "abcdefghijklmnopqrstuvwxyz")) = .ret (.d (.bool (low c))) := by
  rw [lets_eq]
  rfl
def okLet (l : List Nat) (m : Int) : Bool := decide (1 ≤ (l.length : Int)) && (decide ((l.length : Int) ≤ m) && l.all low)
def isLetters : PyData → Int → Bool
  | .str z, m => okLet z.cps.toList m
  | _, _ => false
/-- its texts are not too long -/
def sm : PyData → Prop
  | .str z => z.length ≤ 16777216
  | .dict _ => False
  | _ => True
def ofOne (f : Nat → PyData) : PyData → PyData
  | .str z => match z.cps.toList with
    | [c] => f c
    | _ => .none
  | _ => .none
theorem map_ofOne (f : Nat → PyData) (l : List Nat) : (l.map oneD).map (ofOne f) = l.map f := by
  rw [List.map_map]
  rfl
theorem lc_signs {ρ : Rn} {l : List Nat} {fa : Rn → Fr Sl} {i : Nat} {fe : Rn → Fr Sl} (f : Nat → PyData) (ha : fa ρ = .ret (.d (sD l))) (hl : l.length ≤ 16777216) (he : ∀ c, fe ((ρ.set i none).set i (some (.d (oneD c)))) = .ret (.d (f c))) :
    fLc (fW fa) (.nm i) [i] fYes fe ρ = .ret (.d (.list (l.map f))) := by
  rw [fLc_pure (ofOne f) (show fW fa ρ = .ret (l.map oneD) by show (fa ρ).bind walkD = _; rw [ha]; rfl) (by rw [List.length_map]; exact hl) (fun x hx => ?_), map_ofOne]
  obtain ⟨c, _, rfl⟩ := List.mem_map.mp hx
  exact ⟨(wipeR ρ [i]).set i (some (.d (oneD c))), by simp only [setT], rfl, he c⟩
theorem S_letters {x : PyData} {m : Int} (h : sm x) : S_is_letters [.d x, .d (.int m)] = .ret (.d (.bool (isLetters x m))) := by
  cases x with
  | str z =>
    have hz : z.length ≤ 16777216 := h
    rw [strS z] at hz ⊢
    generalize z.cps.toList = l at hz ⊢
    have hl : l.length ≤ 16777216 := by rw [← len_S l]; exact hz
    have e1 := lc_signs (ρ := [some (.d (sD l)), some (.d (.int m)), none]) (fa := fVar 0) (i := 2) (fe := f2 sIn (fVar 2) (fC (.str "abcdefghijklmnopqrstuvwxyz"))) (fun c => .bool (low c)) rfl hl (fun c => sIn_low c)
    show ((g_is_letters [some (.d (sD l)), some (.d (.int m)), none]).noX).bind outS = _
    unfold g_is_letters
    rw [gRet_eq, fAndV_eq, f1_eq, fVar_eq]
    simp only [List.getElem?_cons_zero, bind_ret, sIsi_eq, notD, isT, if_pos, toB_eq, fAndV_eq, fChain_eq, fC_eq, f1_eq, fVar_eq, List.getElem?_cons_succ, sLe_eq, e1]
    rw [sLen_str (by rw [len_S]; exact hl), bind_ret, sLe_eq, bind_ret, toB_eq, bind_ret, len_S]
    unfold isLetters okLet
    by_cases h1 : (1 : Int) ≤ (l.length : Int)
    · by_cases h2 : (l.length : Int) ≤ m
      · simp [h1, h2, sAll_map low l]
      · simp [h1, h2]
    · simp [h1]
  | dict _ => exact h.elim
  | none => rfl
  | bool _ => rfl
  | int _ => rfl
  | list _ => rfl
  | tuple _ => rfl
theorem S_name {x : PyData} (h : sm x) : S_is_name [.d x] = .ret (.d (.bool (isLetters x 6))) := by
  show (((callS 2 S_is_letters [.d x, .d (.int 6)]).bindX _ _).noX).bind outS = _
  rw [callS2, S_letters h]
  rfl
end TM
namespace TM
open PySem PySem.Spec PyProof.Rows L2
@[simp] theorem toDs_nil : toDs [] = .ret [] := rfl
@[simp] theorem toDs_cons {x : PyData} {r : List Sl} : toDs (.d x :: r) = (toDs r).bind fun xs => .ret (x :: xs) := rfl
@[simp] theorem fTup_eq {fr : Rn → Fr (List Sl)} {ρ : Rn} : fTup fr ρ = (fr ρ).bind fun xs => (line xs.length).bind fun _ => (toDs xs).bind fun ds => .ret (.d (.tuple ds)) := rfl
@[simp] theorem fLst_eq {fr : Rn → Fr (List Sl)} {ρ : Rn} : fLst fr ρ = (fr ρ).bind fun xs => (line xs.length).bind fun _ => (toDs xs).bind fun ds => .ret (.d (.list ds)) := rfl
@[simp] theorem gFor_eq {fi : Rn → Fr (List PyData)} {t : Tg} {gb : Rn → Fr Out} {ρ : Rn} : gFor fi t gb ρ = (fi ρ).bindX ρ fun xs => forO t gb xs ρ := rfl
end TM
namespace TM
open PySem PySem.Spec PyProof.Rows L2
/-- a deed: none, or sending (true) or receiving, with its word -/
abbrev Deed := Option (Bool × List Nat)
def deedD : Deed → PyData
  | none => .none
  | some (b, w) => .tuple [.str (if b = true then "send" else "receive"), sD w]
def stepD (m : List Nat) (n : Int) (d : Deed) : PyData := .tuple [sD m, .int n, deedD d]
end TM
namespace TM
open PySem PySem.Spec PyProof.Rows L2
/-- a word of up to four letters -/
def wordOk (m : List Nat) : Prop := okLet m 4 = true
theorem wordOk.len {m : List Nat} (h : wordOk m) : m.length ≤ 4 := by
  unfold wordOk okLet at h
  simp only [Bool.and_eq_true, decide_eq_true_eq] at h
  omega
theorem wordOk.low {m : List Nat} (h : wordOk m) : ∀ c ∈ m, low c = true := by
  unfold wordOk okLet at h
  simp only [Bool.and_eq_true, decide_eq_true_eq] at h
  exact List.all_eq_true.mp h.2.2
def deedOk : Deed → Prop
  | none => True
  | some (_, w) => wordOk w
structure GS (m : List Nat) (n : Int) (d : Deed) : Prop where
  m : wordOk m
  lo : -99 ≤ n
  hi : n ≤ 99
  d : deedOk d
end TM
namespace TM
open PySem PySem.Spec PyProof.Rows L2
structure WV (f : Rn → Fr Sl) (ρ : Rn) (P : PyData → Prop) : Prop where
  ok : (f ρ).wp fun s => ∃ x, s = .d x ∧ P x
structure WL (f : Rn → Fr (List Sl)) (ρ : Rn) (P : List PyData → Prop) : Prop where
  ok : (f ρ).wp fun ss => ∃ xs, toDs ss = .ret xs ∧ ss.length = xs.length ∧ P xs
theorem wv_ret {f : Rn → Fr Sl} {ρ : Rn} {x : PyData} {P : PyData → Prop} (e : f ρ = .ret (.d x)) (h : P x) : WV f ρ P := ⟨by rw [e]; exact ⟨x, rfl, h⟩⟩
theorem wl_nil {ρ : Rn} {P : List PyData → Prop} (h : P []) : WL fNil ρ P := ⟨⟨[], rfl, rfl, h⟩⟩
theorem wl_cons {fa : Rn → Fr Sl} {fr : Rn → Fr (List Sl)} {ρ : Rn} {P : List PyData → Prop} (h : WV fa ρ fun x => WL fr ρ fun xs => P (x :: xs)) : WL (fCons fa fr) ρ P := ⟨by
  rw [fCons_eq]
  refine Fr.wp_bind.mpr (Fr.wp_mono (fun s ⟨x, e, q⟩ => ?_) h.ok)
  subst e
  refine Fr.wp_bind.mpr (Fr.wp_mono (fun ss ⟨xs, e1, e2, q⟩ => ?_) q.ok)
  exact ⟨x :: xs, by rw [toDs_cons, e1]; rfl, by simp [e2], q⟩⟩
theorem wv_lst {fr : Rn → Fr (List Sl)} {ρ : Rn} {P : PyData → Prop} (h : WL fr ρ fun xs => xs.length ≤ 16777216 ∧ P (.list xs)) : WV (fLst fr) ρ P := ⟨by
  rw [fLst_eq]
  refine Fr.wp_bind.mpr (Fr.wp_mono (fun ss ⟨xs, e1, e2, hl, q⟩ => ?_) h.ok)
  rw [line_eq (by omega), bind_ret, e1]
  exact ⟨_, rfl, q⟩⟩
theorem atI_mem {α : Type} {xs : List α} {i : Int} (h0 : 0 ≤ i) (h1 : i < xs.length) : ∃ x, atI xs i = some x ∧ x ∈ xs := by
  have hl : i.toNat < xs.length := by omega
  have e := atI_nat (xs := xs) (j := i.toNat) (v := xs[i.toNat]) (List.getElem?_eq_getElem hl)
  rw [Int.toNat_of_nonneg h0] at e
  exact ⟨_, e, List.getElem_mem hl⟩
theorem wp_drawS' {n : Int} {P : Sl → Prop} (h0 : 0 < n) (h1 : n < 1073741824) (h : ∀ i : Int, 0 ≤ i → i < n → P (.d (.int i))) : (drawS [.bag, .d (.int n)]).wp P := by
  rw [drawS_eq h1]
  exact ⟨h0, h⟩
theorem wp_bindX' {α : Type} {ρ : Rn} {f : α → Fr Out} {P : Out → Prop} : ∀ {x : Fr α}, (x.wp fun a => (f a).wp P) → (x.bindX ρ f).wp P
  | .ret a, h => h
  | .bad, h => h
  | .exc x, h => h.elim
  | .draw n k, h => ⟨h.1, fun i h0 h1 => wp_bindX' (h.2 i h0 h1)⟩
  | .any k, h => fun i => wp_bindX' (h i)
  | .anyH k, h => fun i => wp_bindX' (h i)
theorem wp_noX' {α : Type} {Q : α → Prop} : ∀ {x : Fr α}, x.wp Q → x.noX.wp Q
  | .ret a, h => h
  | .bad, h => h
  | .exc x, h => h
  | .draw n k, h => ⟨h.1, fun i h0 h1 => wp_noX' (h.2 i h0 h1)⟩
  | .any k, h => fun i => wp_noX' (h i)
  | .anyH k, h => fun i => wp_noX' (h i)
theorem wp_ofL {ds : List PyData} {P : Sl → Prop} (h0 : ds ≠ []) (hl : ds.length < 1073741824) (h : ∀ d ∈ ds, P (.d d)) : (ofS [.bag, .d (.list ds)]).wp P := by
  have hp : 0 < ds.length := List.length_pos_iff.mpr h0
  unfold ofS fnSem
  rw [show startR 2 [.bag, .d (.list ds)] = [some .bag, some (.d (.list ds))] from rfl]
  simp -implicitDefEqProofs only [gRet_eq, f2_eq, fCall_eq, fCons_eq, fVar_eq, List.getElem?_cons_zero, List.getElem?_cons_succ, bind_ret, f1_eq, sLen_lst, fNil_eq, callS2b]
  refine Fr.wp_bind.mpr (wp_noX' (wp_bindX' (Fr.wp_bind.mpr (wp_drawS' (by omega) (by omega) fun i a b => ?_))))
  obtain ⟨x, h1, h2⟩ := atI_mem a b
  have e2 : sIx (.d (.list ds)) (.d (.int i)) = .ret (.d x) := by
    show (ofO (atI ds i)).bind _ = _
    rw [h1]
    rfl
  rw [e2]
  simp -implicitDefEqProofs only [wp_ret, outS_rt, frz_d]
  exact h x h2
/-- one of a written or reckoned list -/
theorem wv_of {i : Nat} {f : Rn → Fr Sl} {ρ : Rn} {P : PyData → Prop} (hb : ρ[i]? = some (some .bag)) (h : WV f ρ fun l => ∃ ds, l = .list ds ∧ ds ≠ [] ∧ ds.length < 1073741824 ∧ ∀ d ∈ ds, P d) : WV (fCall 2 ofS (fCons (fVar i) (fCons f fNil))) ρ P := ⟨by
  rw [fCall_eq, fCons_eq, fVar_eq, hb]
  simp only [bind_ret, fCons_eq, fNil_eq]
  refine Fr.wp_bind.mpr (Fr.wp_bind.mpr (Fr.wp_bind.mpr (Fr.wp_mono (fun s ⟨l, e, ds, e2, h0, hl, q⟩ => ?_) h.ok)))
  subst e
  subst e2
  simp -implicitDefEqProofs only [wp_ret, callS2b]
  exact wp_ofL h0 hl fun d hd => ⟨d, rfl, q d hd⟩⟩
theorem wv_call2 {fs : List Sl → Fr Sl} {f f' : Rn → Fr Sl} {ρ : Rn} {P : PyData → Prop} (h : WV f ρ fun x => WV f' ρ fun y => ∃ z, fs [.d x, .d y] = .ret (.d z) ∧ P z) : WV (fCall 2 fs (fCons f (fCons f' fNil))) ρ P := ⟨by
  rw [fCall_eq, fCons_eq]
  refine Fr.wp_bind.mpr (Fr.wp_bind.mpr (Fr.wp_mono (fun s ⟨x, e, q⟩ => ?_) h.ok))
  subst e
  rw [fCons_eq]
  refine Fr.wp_bind.mpr (Fr.wp_bind.mpr (Fr.wp_mono (fun s ⟨y, e, z, e2, q⟩ => ?_) q.ok))
  subst e
  show (callS 2 fs [.d x, .d y]).wp _
  rw [callS2, e2]
  exact ⟨z, rfl, q⟩⟩
theorem wg_ret {f : Rn → Fr Sl} {ρ : Rn} {P : Out → Prop} (h : WV f ρ fun x => P (.rt (.d x))) : (gRet f ρ).wp P := by
  rw [gRet_eq]
  refine wp_bindX' (Fr.wp_mono (fun s ⟨x, e, q⟩ => ?_) h.ok)
  subst e
  exact q
structure WT (f : Rn → Fr Bool) (ρ : Rn) (P : Bool → Prop) : Prop where
  ok : (f ρ).wp P
theorem wt_not {f : Rn → Fr Bool} {ρ : Rn} {P : Bool → Prop} (h : WT f ρ fun b => P (!b)) : WT (fNot f) ρ P := ⟨by
  rw [fNot_eq]
  exact Fr.wp_bind.mpr (Fr.wp_mono (fun b q => q) h.ok)⟩
theorem wt_val {f : Rn → Fr Sl} {ρ : Rn} {P : Bool → Prop} (h : WV f ρ fun x => ∃ b, truth (.d x) = .ret b ∧ P b) : WT (fT f) ρ P := ⟨by
  rw [fT_eq]
  refine Fr.wp_bind.mpr (Fr.wp_mono (fun s ⟨x, e, b, e2, q⟩ => ?_) h.ok)
  subst e
  rw [e2]
  exact q⟩
/-- a loop whose turns keep Inv -/
theorem wp_for {t : Tg} {gb : Rn → Fr Out} {Inv : Rn → Prop} : ∀ {xs : List PyData} {ρ : Rn} {P : Out → Prop}, (∀ x ∈ xs, ∀ ρ, Inv ρ → ∃ ρ1, setT t x ρ = some ρ1 ∧ (gb ρ1).wp fun o => ∃ ρ2, (o = .nx ρ2 ∨ o = .ct ρ2) ∧ Inv ρ2) → Inv ρ → (∀ ρ, Inv ρ → P (.nx ρ)) → (forO t gb xs ρ).wp P
  | [], ρ, P, _, h0, hP => hP ρ h0
  | x :: xs, ρ, P, h, h0, hP => by
    obtain ⟨ρ1, e, w⟩ := h x List.mem_cons_self ρ h0
    unfold forO
    rw [e, ofO_some, bind_ret]
    refine Fr.wp_bind.mpr (Fr.wp_mono (fun o ⟨ρ2, eo, i2⟩ => ?_) w)
    rcases eo with rfl | rfl
    · exact wp_for (fun y hy => h y (List.mem_cons_of_mem _ hy)) i2 hP
    · exact wp_for (fun y hy => h y (List.mem_cons_of_mem _ hy)) i2 hP
theorem gSeq_nx {g g' : Rn → Fr Out} {ρ ρ' : Rn} (h : g ρ = .ret (.nx ρ')) : gSeq g g' ρ = g' ρ' := by
  rw [gSeq_eq, h]
  rfl
theorem gSeq_rt {g g' : Rn → Fr Out} {ρ : Rn} {s : Sl} (h : g ρ = .ret (.rt s)) : gSeq g g' ρ = .ret (.rt s) := by
  rw [gSeq_eq, h]
  rfl
theorem gIf_t {ft : Rn → Fr Bool} {g g' : Rn → Fr Out} {ρ : Rn} (h : ft ρ = .ret true) : gIf ft g g' ρ = g ρ := by
  rw [gIf_eq, h]
  rfl
theorem gIf_f {ft : Rn → Fr Bool} {g g' : Rn → Fr Out} {ρ : Rn} (h : ft ρ = .ret false) : gIf ft g g' ρ = g' ρ := by
  rw [gIf_eq, h]
  rfl
mutual
def sameOk : Nat → PyData → Bool
  | 0, _ => false
  | n + 1, .list xs => decide (xs.length ≤ 1000) && sameOkL n xs
  | n + 1, .tuple xs => decide (xs.length ≤ 1000) && sameOkL n xs
  | _, .dict _ => false
  | _, _ => true
def sameOkL : Nat → List PyData → Bool
  | _, [] => true
  | n, x :: xs => sameOk n x && sameOkL n xs
end
theorem zip_self_all {R : List Sl → Fr Sl} {n : Nat} (ih : ∀ x, sameOk n x = true → R [.d x, .d x] = .ret (.d (.bool true))) {ρ : Rn} : ∀ (xs : List PyData), ρ.length = 4 → sameOkL n xs = true → lcGo (.tup 2 (.cons (.nm 2) (.cons (.nm 3) .nil))) ρ fYes (fD (fCall 2 R (fCons (fVar 2) (fCons (fVar 3) fNil)))) (zipD xs xs) = .ret (xs.map fun _ => .bool true)
  | [], _, _ => rfl
  | x :: xs, h4, h => by
    obtain ⟨h1, h2⟩ := Bool.and_eq_true_iff.mp h
    match ρ, h4 with
    | [r0, r1, r2, r3], h4 =>
      show ((((callS 2 R [.d x, .d x]).bind toD).noX).bind fun y => (lcGo _ _ _ _ (zipD xs xs)).bind fun ys => Fr.ret (y :: ys)) = _
      rw [callS2, ih x h1, zip_self_all ih xs rfl h2]
      rfl
theorem zipD_len' {xs : List PyData} : (zipD xs xs).length = xs.length := by
  induction xs with
  | nil => rfl
  | cons x xs ih => simp [zipD, ih]
theorem same_seq {R : List Sl → Fr Sl} {n : Nat} {x : PyData} {xs : List PyData} (ih : ∀ x, sameOk n x = true → R [.d x, .d x] = .ret (.d (.bool true))) (h : sameOkL n xs = true) (hl : xs.length ≤ 1000) (hx : x = .list xs ∨ x = .tuple xs) : fnSem 4 (g__law_same R) [.d x, .d x] = .ret (.d (.bool true)) := by
  have key : ∀ fi : Rn → Fr (List PyData), fi [some (.d x), some (.d x), none, none] = .ret (zipD xs xs) → fLc fi (.tup 2 (.cons (.nm 2) (.cons (.nm 3) .nil))) [2, 3] fYes (fCall 2 R (fCons (fVar 2) (fCons (fVar 3) fNil))) [some (.d x), some (.d x), none, none] = .ret (.d (.list (xs.map fun _ => .bool true))) := by
    intro fi e
    show ((fi _).bind fun xs => (line xs.length).bind fun _ => (lcGo _ (wipeR _ [2, 3]) _ _ xs).bind fun ds => .ret (PyData.list ds)).bind (fun x => Fr.ret (Sl.d x)) = _
    rw [e, bind_ret, line_eq (by rw [zipD_len']; omega), bind_ret, zip_self_all ih xs rfl h]
    rfl
  have ha : sAll (.d (.list (xs.map fun _ => .bool true))) = .ret (.d (.bool true)) := by
    rw [sAll_map (fun _ => true) xs]
    simp
  show ((g__law_same R [some (.d x), some (.d x), none, none]).noX).bind outS = _
  unfold g__law_same
  rcases hx with rfl | rfl
  · have e := key (fun ρ => Fr.bind ((fVar 0) ρ) fun x => Fr.bind ((fVar 1) ρ) fun y => sZip x y) rfl
    rw [gSeq_nx (show _ = Fr.ret (Out.nx [some (.d (.list xs)), some (.d (.list xs)), none, none]) from rfl), gSeq_rt (s := .d (.bool true)) ?_]
    · rfl
    rw [gIf_t rfl, gSeq_nx (show _ = Fr.ret (Out.nx [some (.d (.list xs)), some (.d (.list xs)), none, none]) from rfl)]
    rw [gRet_eq, fAndV_eq, f1_eq (g := sAll), e]
    simp only [f2_eq, f1_eq, fVar_eq, List.getElem?_cons_zero, List.getElem?_cons_succ, bind_ret, sLen_lst, sEq_int, decide_true, toB_eq, if_true, ha, bindX_ret]
  · have e := key (fun ρ => Fr.bind ((fVar 0) ρ) fun x => Fr.bind ((fVar 1) ρ) fun y => sZip x y) rfl
    rw [gSeq_nx (show _ = Fr.ret (Out.nx [some (.d (.tuple xs)), some (.d (.tuple xs)), none, none]) from rfl), gSeq_rt (s := .d (.bool true)) ?_]
    · rfl
    rw [gIf_t rfl, gSeq_nx (show _ = Fr.ret (Out.nx [some (.d (.tuple xs)), some (.d (.tuple xs)), none, none]) from rfl)]
    rw [gRet_eq, fAndV_eq, f1_eq (g := sAll), e]
    simp only [f2_eq, f1_eq, fVar_eq, List.getElem?_cons_zero, List.getElem?_cons_succ, bind_ret, sLen_tup, sEq_int, decide_true, toB_eq, if_true, ha, bindX_ret]
theorem same_flat {R : List Sl → Fr Sl} : (fnSem 4 (g__law_same R) [.d .none, .d .none] = .ret (.d (.bool true))) ∧ (∀ b, fnSem 4 (g__law_same R) [.d (.bool b), .d (.bool b)] = .ret (.d (.bool true))) ∧ (∀ i, fnSem 4 (g__law_same R) [.d (.int i), .d (.int i)] = .ret (.d (.bool true))) ∧ (∀ z, fnSem 4 (g__law_same R) [.d (.str z), .d (.str z)] = .ret (.d (.bool true))) := by
  refine ⟨rfl, fun b => by cases b <;> rfl, fun i => ?_, fun z => ?_⟩
  · show ((((sEq (.d (.int i)) (.d (.int i)))).bindX [some (.d (.int i)), some (.d (.int i)), none, none] fun s => Fr.ret (Out.rt s)).noX).bind outS = _
    rw [sEq_int, decide_eq_true rfl]
    rfl
  · show ((((sEq (.d (.str z)) (.d (.str z)))).bindX [some (.d (.str z)), some (.d (.str z)), none, none] fun s => Fr.ret (Out.rt s)).noX).bind outS = _
    rw [sEq_str, decide_eq_true rfl]
    rfl
theorem same_ok : ∀ (n : Nat) (x : PyData), sameOk n x = true → S__law_same n [.d x, .d x] = .ret (.d (.bool true))
  | 0, x, h => by simp [sameOk] at h
  | n + 1, x, h => by
    show fnSem 4 (g__law_same (S__law_same n)) [.d x, .d x] = _
    cases x with
    | none => exact same_flat.1
    | bool b => exact same_flat.2.1 b
    | int i => exact same_flat.2.2.1 i
    | str z => exact same_flat.2.2.2 z
    | dict _ => simp [sameOk] at h
    | list xs =>
      simp only [sameOk, Bool.and_eq_true, decide_eq_true_eq] at h
      exact same_seq (same_ok n) h.2 h.1 (.inl rfl)
    | tuple xs =>
      simp only [sameOk, Bool.and_eq_true, decide_eq_true_eq] at h
      exact same_seq (same_ok n) h.2 h.1 (.inr rfl)
end TM
namespace TM
open PySem PySem.Spec PyProof.Rows L2
theorem lcGo_each {t : Tg} {ρ0 : Rn} {ft : Rn → Fr Bool} {fe : Rn → Fr Sl} : ∀ {xs ys : List PyData}, Paired (fun x y => ∃ ρ1, setT t x ρ0 = some ρ1 ∧ ft ρ1 = .ret true ∧ fe ρ1 = .ret (.d y)) xs ys → lcGo t ρ0 ft (fD fe) xs = .ret ys
  | _, _, .nil => rfl
  | _, _, .cons ⟨ρ1, h1, h2, h3⟩ r => by
    unfold lcGo
    rw [h1, ofO_some, bind_ret, h2, noX_ret, bind_ret, if_pos rfl]
    show (((fe ρ1).bind toD).noX).bind _ = _
    rw [h3]
    show (lcGo t ρ0 ft (fD fe) _).bind _ = _
    rw [lcGo_each r]
    rfl
theorem fLc_each {fi : Rn → Fr (List PyData)} {t : Tg} {vs : List Nat} {ft : Rn → Fr Bool} {fe : Rn → Fr Sl} {ρ : Rn} {xs ys : List PyData} (e : fi ρ = .ret xs) (hl : xs.length ≤ 16777216)
    (hx : Paired (fun x y => ∃ ρ1, setT t x (wipeR ρ vs) = some ρ1 ∧ ft ρ1 = .ret true ∧ fe ρ1 = .ret (.d y)) xs ys) : fLc fi t vs ft fe ρ = .ret (.d (.list ys)) := by
  show ((fi ρ).bind fun xs => (line xs.length).bind fun _ => (lcGo t (wipeR ρ vs) ft (fD fe) xs).bind fun ds => .ret (PyData.list ds)).bind (fun x => Fr.ret (Sl.d x)) = _
  rw [e, bind_ret, line_eq hl, bind_ret, lcGo_each hx]
  rfl
theorem paired_map {α : Type} {R : PyData → PyData → Prop} {f g : α → PyData} : ∀ {l : List α}, (∀ a ∈ l, R (f a) (g a)) → Paired R (l.map f) (l.map g)
  | [], _ => .nil
  | a :: l, h => .cons (h a List.mem_cons_self) (paired_map fun b hb => h b (List.mem_cons_of_mem _ hb))
/-- a list with its places -/
def ixs {α : Type} (k : Nat) : List α → List (Nat × α)
  | [] => []
  | a :: l => (k, a) :: ixs (k + 1) l
theorem enum_map {α : Type} {f : α → PyData} : ∀ {l : List α} {k : Nat}, enumD k (l.map f) = (ixs k l).map fun p => .tuple [.int (p.1 : Int), f p.2]
  | [], _ => rfl
  | a :: l, k => by
    show _ :: enumD (k + 1) (l.map f) = _
    rw [enum_map]
    rfl
theorem ixs_mem {α : Type} : ∀ {l : List α} {k : Nat} {p : Nat × α}, p ∈ ixs k l → k ≤ p.1 ∧ l[p.1 - k]? = some p.2
  | [], _, _, h => by cases h
  | a :: l, k, p, h => by
    rcases List.mem_cons.mp h with e | h
    · rw [e]; simp
    · obtain ⟨h1, h2⟩ := ixs_mem h
      refine ⟨by omega, ?_⟩
      rw [show p.1 - k = (p.1 - (k + 1)) + 1 by omega, List.getElem?_cons_succ]
      exact h2
theorem fnSem_ret {n : Nat} {g : Rn → Fr Out} {ss : List Sl} {s : Sl} (h : g (startR n ss) = .ret (.rt s)) : fnSem n g ss = .ret (frz s) := by
  unfold fnSem
  rw [h]
  rfl
theorem gRet_ret {f : Rn → Fr Sl} {ρ : Rn} {s : Sl} (h : f ρ = .ret s) : gRet f ρ = .ret (.rt s) := by
  rw [gRet_eq, h]
  rfl
theorem gSet_ret {i : Nat} {f : Rn → Fr Sl} {ρ : Rn} {x : PyData} (h : f ρ = .ret (.d x)) : gSet i f ρ = .ret (.nx (ρ.set i (some (.d x)))) := by
  rw [gSet_eq, h]
  rfl
theorem gFor_ret {fi : Rn → Fr (List PyData)} {t : Tg} {gb : Rn → Fr Out} {ρ : Rn} {xs : List PyData} (h : fi ρ = .ret xs) : gFor fi t gb ρ = forO t gb xs ρ := by
  show (fi ρ).bindX ρ _ = _
  rw [h]
  rfl
theorem fB_ret {f : Rn → Fr Sl} {ρ : Rn} {b : Bool} (h : f ρ = .ret (.d (.bool b))) : fB f ρ = .ret b := by
  rw [fB_eq, h]
  rfl
theorem fT_ret {f : Rn → Fr Sl} {ρ : Rn} {b : Bool} (h : f ρ = .ret (.d (.bool b))) : fT f ρ = .ret b := by
  rw [fT_eq, h]
  rfl
theorem f2_ret {g : Sl → Sl → Fr Sl} {fa fb : Rn → Fr Sl} {ρ : Rn} {x y z : Sl} (h1 : fa ρ = .ret x) (h2 : fb ρ = .ret y) (h3 : g x y = .ret z) : f2 g fa fb ρ = .ret z := by
  rw [f2_eq, h1, bind_ret, h2, bind_ret, h3]
structure St where
  m : List Nat
  n : Int
  d : Deed
def St.D (s : St) : PyData := stepD s.m s.n s.d
def rwD (r : List St) : PyData := .tuple (r.map St.D)
abbrev Ct := List (List St)
def ctD (c : Ct) : PyData := .tuple (c.map rwD)
def nD (n : Nat) : PyData := .int (n : Int)
def ptD (p : List Nat) : PyData := .tuple (p.map nD)
def prD (a b : Nat) : PyData := .tuple [nD a, nD b]
/-- a log's data -/
def lgD (c : Ct) (sp se od pa : PyData) : PyData := insD "Log" [(.str "content", ctD c), (.str "spots", sp), (.str "senders", se), (.str "order", od), (.str "pasts", pa)]
section
variable {c : Ct} {sp se od pa : PyData}
def lens (c : Ct) : List Nat := c.map List.length
end
end TM
namespace TM
open PySem PySem.Spec PyProof.Rows L2
section
variable {c : Ct} {sp se od pa : PyData}
/-- what the log's dict of pasts tells -/
structure PasD (c : Ct) (pa : PyData) (P : Nat → Nat → List Nat) : Prop where
  get : ∀ (s i : Nat) (r : List St), c[s]? = some r → i < r.length → sGetD (.d pa) (.d (prD s i)) = .ret (.d (ptD (P s i))) ∧ (P s i).length = c.length
end
end TM
namespace TM
open PySem PySem.Spec PyProof.Rows L2
def Le (p q : List Nat) : Prop := ∀ (k a b : Nat), p[k]? = some a → q[k]? = some b → a ≤ b
theorem Le.refl (p : List Nat) : Le p p := fun k a b h1 h2 => by
  rw [h1] at h2
  cases h2
  exact Nat.le_refl _
theorem Le.trans {p q r : List Nat} (hl : q.length = p.length) (h1 : Le p q) (h2 : Le q r) : Le p r := fun k a b e1 e2 => by
  have hk : k < q.length := by
    rw [hl]
    exact (List.getElem?_eq_some_iff.mp e1).1
  have e3 : q[k]? = some q[k] := List.getElem?_eq_getElem hk
  exact Nat.le_trans (h1 k a _ e1 e3) (h2 k _ b e3 e2)
def stp (c : Ct) (s i : Nat) : Option St := (c[s]?).bind (·[i]?)
def Snd (c : Ct) (m : List Nat) (s i : Nat) : Prop := ∃ x, stp c s i = some x ∧ x.d = some (true, m)
def Rcv (c : Ct) (m : List Nat) (s i : Nat) : Prop := ∃ x, stp c s i = some x ∧ x.d = some (false, m)
def pAt (p : List Nat) (s : Nat) : Nat := p.getD s 0
/-- all that is received within p is sent within p -/
def Closed (c : Ct) (p : List Nat) : Prop := ∀ m s i s' i', Rcv c m s i → i < pAt p s → Snd c m s' i' → i' < pAt p s'
structure PastS (c : Ct) (P : Nat → Nat → List Nat) : Prop where
  len : ∀ s i x, stp c s i = some x → (P s i).length = c.length
  own : ∀ s i x, stp c s i = some x → (P s i)[s]? = some (i + 1)
  prev : ∀ s i x, stp c s (i + 1) = some x → Le (P s i) (P s (i + 1))
  rcv : ∀ m s i s' i', Rcv c m s i → Snd c m s' i' → Le (P s' i') (P s i)
  least : ∀ p, p.length = c.length → Closed c p → ∀ s i x, stp c s i = some x → i < pAt p s → Le (P s i) p
theorem stp_some {c : Ct} {s i : Nat} {x : St} (h : stp c s i = some x) : ∃ r, c[s]? = some r ∧ r[i]? = some x := by
  unfold stp at h
  cases e : c[s]? with
  | none => rw [e] at h; cases h
  | some r => rw [e] at h; exact ⟨r, rfl, h⟩
theorem stp_down {c : Ct} {s i j : Nat} {x : St} (h : stp c s i = some x) (hj : j ≤ i) : ∃ y, stp c s j = some y := by
  obtain ⟨r, h1, h2⟩ := stp_some h
  have hl : j < r.length := by
    have := (List.getElem?_eq_some_iff.mp h2).1
    omega
  exact ⟨r[j], by unfold stp; rw [h1]; exact List.getElem?_eq_getElem hl⟩
theorem PastS.mono {c : Ct} {P : Nat → Nat → List Nat} (h : PastS c P) {s : Nat} : ∀ {i k : Nat} {x : St}, stp c s (i + k) = some x → Le (P s i) (P s (i + k))
  | i, 0, x, e => Le.refl _
  | i, k + 1, x, e => by
    obtain ⟨y, e2⟩ := stp_down e (show i + k ≤ i + (k + 1) by omega)
    obtain ⟨z, e3⟩ := stp_down e (show i ≤ i + (k + 1) by omega)
    exact (PastS.mono h e2).trans (by rw [h.len s (i + k) y e2, h.len s i z e3]) (h.prev s (i + k) x e)
end TM
namespace TM
open PySem PySem.Spec PyProof.Rows L2
/-- a step that can be made behind mk -/
def CanMk (c : Ct) (mk : List Nat) (s i : Nat) (x : St) : Prop := mk[s]? = some i ∧ stp c s i = some x ∧ ∀ m, x.d = some (false, m) → ∃ s' i', Snd c m s' i' ∧ i' < pAt mk s'
def OrdL (c : Ct) : List Nat → List (Nat × Nat) → Prop
  | _, [] => True
  | mk, z :: l => (∃ x, CanMk c mk z.1 z.2 x) ∧ OrdL c (mk.set z.1 (z.2 + 1)) l
def adv (mk : List Nat) (l : List (Nat × Nat)) : List Nat := l.foldl (fun mk z => mk.set z.1 (z.2 + 1)) mk
/-- what is left to be made -/
def remL : List Nat → Ct → Nat
  | a :: mk, r :: c => (r.length - a) + remL mk c
  | _, _ => 0
theorem remL_set : ∀ {mk : List Nat} {c : Ct} {s i : Nat} {r : List St}, mk[s]? = some i → c[s]? = some r → i < r.length → remL (mk.set s (i + 1)) c + 1 = remL mk c
  | [], _, _, _, _, h, _, _ => by simp at h
  | _ :: _, [], _, _, _, _, h, _ => by simp at h
  | a :: mk, q :: c, 0, i, r, h1, h2, h3 => by
    cases h1
    cases h2
    show (q.length - (a + 1)) + remL mk c + 1 = (q.length - a) + remL mk c
    omega
  | a :: mk, q :: c, s + 1, i, r, h1, h2, h3 => by
    show (q.length - a) + remL (mk.set s (i + 1)) c + 1 = (q.length - a) + remL mk c
    have := remL_set (mk := mk) (c := c) (s := s) (by simpa using h1) (by simpa using h2) h3
    omega
theorem remL_le : ∀ (mk : List Nat) (c : Ct) (k : Nat), (∀ r ∈ c, r.length ≤ k) → remL mk c ≤ k * c.length
  | [], c, k, _ => by cases c <;> exact Nat.zero_le _
  | _ :: _, [], k, _ => Nat.zero_le _
  | a :: mk, r :: c, k, h => by
    have h1 := h r List.mem_cons_self
    have h2 := remL_le mk c k fun q hq => h q (List.mem_cons_of_mem _ hq)
    show (r.length - a) + remL mk c ≤ k * (c.length + 1)
    rw [Nat.mul_add]
    omega
def odD (l : List (Nat × Nat)) : PyData := .list (l.map fun z => prD z.1 z.2)
def zerosL (c : Ct) : List Nat := c.map fun _ => 0
/-- every step can be made, in the end -/
def Acy (c : Ct) : Prop := ∃ T : Nat → Nat → Nat, (∀ s i x, stp c s (i + 1) = some x → T s i < T s (i + 1)) ∧ ∀ m s i s' i', Rcv c m s i → Snd c m s' i' → T s' i' < T s i
end TM
namespace TM
open PySem PySem.Spec PyProof.Rows L2
def paD (don : List (Nat × Nat)) (P : Nat → Nat → List Nat) : List (PyData × PyData) := don.map fun z => (prD z.1 z.2, ptD (P z.1 z.2))
end TM
namespace TM
open PySem PySem.Spec PyProof.Rows L2
theorem strOk_of {w : List Nat} (h : ∀ c ∈ w, c < 1114112) : PyData.strOk (⟨w.toArray⟩ : Str) = true := by
  unfold PyData.strOk
  simp only [List.all_toArray, List.all_eq_true, decide_eq_true_eq]
  exact h
theorem wordOk.lt {w : List Nat} (h : wordOk w) : ∀ c ∈ w, c < 1114112 := fun c hc => by
  have := low_iff.mp (h.low c hc)
  omega
def sw (b : Bool) : Str := if b = true then "send" else "receive"
theorem sw_ok (b : Bool) : PyData.strOk (sw b) = true := by cases b <;> decide +kernel
theorem sD_inj {a b : List Nat} : decide ((⟨a.toArray⟩ : Str) = ⟨b.toArray⟩) = decide (a = b) := decide_eq_decide.mpr S_eq
def dOf (b : Bool) (s : Nat) (q : Nat × St) : Option (List Nat × Nat × Nat) := match q.2.d with
  | some (b', m) => if b' = b then some (m, s, q.1) else none
  | none => none
def deedsL (c : Ct) (b : Bool) : List (List Nat × Nat × Nat) := (ixs 0 c).flatMap fun p => (ixs 0 p.2).filterMap (dOf b p.1)
/-- all deeds, in order -/
def deedsOf (c : Ct) : List (Bool × List Nat) := c.flatMap fun r => r.filterMap St.d
end TM
namespace TM
open PySem PySem.Spec PyProof.Rows L2
/-- the senders -/
def seL (c : Ct) : List (PyData × PyData) := (deedsL c true).map fun t => (sD t.1, prD t.2.1 t.2.2)
end TM
namespace TM
open PySem PySem.Spec PyProof.Rows L2
theorem fCall1_ret {fs : List Sl → Fr Sl} {f : Rn → Fr Sl} {ρ : Rn} {x : PyData} {s : Sl} (h : f ρ = .ret (.d x)) (h2 : fs [.d x] = .ret s) : fCall 1 fs (fCons f fNil) ρ = .ret s := by
  rw [fCall_eq, fCons_eq, h, bind_ret, fNil_eq, bind_ret, bind_ret, callS1, h2]
theorem fNot_ret {f : Rn → Fr Bool} {ρ : Rn} {b : Bool} (h : f ρ = .ret b) : fNot f ρ = .ret (!b) := by
  rw [fNot_eq, h, bind_ret]
theorem fAndV_t {fa fb : Rn → Fr Sl} {ρ : Rn} {s : Sl} (h : fa ρ = .ret (.d (.bool true))) (h2 : fb ρ = .ret s) : fAndV fa fb ρ = .ret s := by
  rw [fAndV_eq, h, bind_ret, toB_eq, bind_ret, if_pos rfl, h2]
abbrev Rw := List Nat × List St
def rowD (r : Rw) : PyData := .tuple [sD r.1, .list (r.2.map St.D)]
def ctOf (rs : List Rw) : Ct := rs.map (·.2)
structure Good (rs : List Rw) : Prop where
  n : rs.length ≤ 6
  nm : ∀ r ∈ rs, okLet r.1 6 = true
  nd : (rs.map (·.1)).Nodup
  st : ∀ r ∈ rs, r.2.length ≤ 20
  gs : ∀ r ∈ rs, ∀ x ∈ r.2, GS x.m x.n x.d
  dd : (deedsOf (ctOf rs)).Nodup
  sn : ∀ m, (false, m) ∈ deedsOf (ctOf rs) → (true, m) ∈ deedsOf (ctOf rs)
  ac : Acy (ctOf rs)
/-- .. the order of whose messages may be wrong -/
structure Sound (rs : List Rw) : Prop where
  n : rs.length ≤ 6
  nm : ∀ r ∈ rs, okLet r.1 6 = true
  nd : (rs.map (·.1)).Nodup
  st : ∀ r ∈ rs, r.2.length ≤ 20
  gs : ∀ r ∈ rs, ∀ x ∈ r.2, GS x.m x.n x.d
  dd : (deedsOf (ctOf rs)).Nodup
  sn : ∀ m, (false, m) ∈ deedsOf (ctOf rs) → (true, m) ∈ deedsOf (ctOf rs)
theorem okLet_len {m : List Nat} {k : Int} (h : okLet m k = true) : (m.length : Int) ≤ k := by
  unfold okLet at h
  simp only [Bool.and_eq_true, decide_eq_true_eq] at h
  exact h.2.1
theorem S_is_row_eq {r : Rw} (h : okLet r.1 6 = true) : S_is_row [.d (rowD r)] = .ret (.d (.bool true)) := by
  have hl := okLet_len h
  have hn : S_is_name [.d (sD r.1)] = .ret (.d (.bool true)) := by
    rw [S_name (x := sD r.1) (show (⟨r.1.toArray⟩ : Str).length ≤ 16777216 by rw [len_S]; omega)]
    show Fr.ret (Sl.d (.bool (okLet (⟨r.1.toArray⟩ : Str).cps.toList 6))) = _
    rw [show (⟨r.1.toArray⟩ : Str).cps.toList = r.1 by simp, h]
  refine fnSem_ret (s := .d (.bool true)) (gRet_ret ?_)
  exact fAndV_t rfl (fAndV_t (f2_ret (x := .d (.int 2)) (y := .d (.int 2)) rfl rfl rfl) (fAndV_t (fCall1_ret (x := sD r.1) rfl hn) rfl))
/-- a loop that only looks -/
theorem forO_look {α : Type} {t : Tg} {gb : Rn → Fr Out} {f : α → PyData} {I : Rn → Prop} : ∀ {l : List α} {ρ : Rn}, (∀ a ∈ l, ∀ ρ, I ρ → ∃ ρ1 ρ2, setT t (f a) ρ = some ρ1 ∧ gb ρ1 = .ret (.nx ρ2) ∧ I ρ2) → I ρ → ∃ ρ', forO t gb (l.map f) ρ = .ret (.nx ρ') ∧ I ρ'
  | [], ρ, _, h0 => ⟨ρ, rfl, h0⟩
  | a :: l, ρ, h, h0 => by
    obtain ⟨ρ1, ρ2, e1, e2, i1⟩ := h a List.mem_cons_self ρ h0
    obtain ⟨ρ', e3, i3⟩ := forO_look (l := l) (fun b hb => h b (List.mem_cons_of_mem _ hb)) i1
    refine ⟨ρ', ?_, i3⟩
    rw [List.map_cons]
    unfold forO
    rw [e1, ofO_some, bind_ret, e2, bind_ret]
    exact e3
/-- what Log(..) gives -/
structure LogOk (rs : List Rw) (D : PyData) (P : Nat → Nat → List Nat) (od : List (Nat × Nat)) : Prop where
  eq : D = lgD (ctOf rs) (.dict ((ixs 0 rs).map fun p => (sD p.2.1, nD p.1))) (.dict (seL (ctOf rs))) (odD od) (.dict (paD od P))
  past : PastS (ctOf rs) P
  pas : PasD (ctOf rs) (.dict (paD od P)) P
  ord : OrdL (ctOf rs) (zerosL (ctOf rs)) od
  all : ∀ s i x, stp (ctOf rs) s i = some x → i < pAt (adv (zerosL (ctOf rs)) od) s
theorem cut_take {α : Type} (xs : List α) (k : Nat) : cutD xs none (some (k : Int)) = xs.take k := by
  unfold cutD
  show (xs.drop 0).take (HT.sIx xs.length xs.length (some (k : Int)) - 0) = _
  have : HT.sIx xs.length xs.length (some (k : Int)) = min k xs.length := by
    unfold HT.sIx
    simp only
    split <;> omega
  rw [this, List.drop_zero, Nat.sub_zero]
  rcases Nat.le_total k xs.length with h | h
  · rw [Nat.min_eq_left h]
  · rw [Nat.min_eq_right h, List.take_of_length_le (Nat.le_refl _), List.take_of_length_le h]
theorem names_flat : ∀ ns : List (List Nat), pln.plnL (ns.map sD) = true ∧ (ns.map sD).all flatD = true
  | [] => ⟨rfl, rfl⟩
  | n :: ns => by
    obtain ⟨h1, h2⟩ := names_flat ns
    exact ⟨by rw [List.map_cons, pln.plnL, h1]; rfl, by rw [List.map_cons, List.all_cons, h2]; rfl⟩
theorem sIn_nms (n : List Nat) (ns : List (List Nat)) : sIn (.d (sD n)) (.d (.list (ns.map sD))) = .ret (.d (.bool (decide (n ∈ ns)))) := by
  obtain ⟨h1, h2⟩ := names_flat ns
  show ((if inOk (sD n) (ns.map sD) = true then Fr.ret ((ns.map sD).any fun z => PyData.eqv z (sD n)) else .bad).bind _) = _
  have ok : inOk (sD n) (ns.map sD) = true := by
    unfold inOk
    rw [h1, h2]
    rfl
  rw [if_pos ok]
  show Fr.ret (Sl.d (.bool ((ns.map sD).any fun z => PyData.eqv z (sD n)))) = _
  congr 3
  clear h1 h2 ok
  induction ns with
  | nil => rfl
  | cons a ns ih =>
    rw [List.map_cons, List.any_cons, ih]
    show (PyData.eqv (.str ⟨a.toArray⟩) (.str ⟨n.toArray⟩) || _) = _
    rw [eqv_str, sD_inj, ← Bool.decide_or]
    exact decide_eq_decide.mpr (by rw [List.mem_cons]; exact ⟨fun h => h.imp Eq.symm id, fun h => h.imp Eq.symm id⟩)
section
variable {rs : List Rw} {a : Int} {x2 x3 x4 x5 x6 x7 x8 x9 x10 x11 x12 : Option Sl}
theorem i1 (G : Sound rs) : gIf (fB (f2 sGt (f1 sLen (fVar 1)) (fC (.int 6)))) (gRaise "TooMany" "TooMany" ["subject", "most"] (fCons (fC (.str "processes")) (fCons (fC (.int 6)) fNil))) gPass [some (.own .i (meI a "Log" [])), some (.d (.tuple (rs.map rowD))), x2, x3, x4, x5, x6, x7, x8, x9, x10, x11, x12] = .ret (.nx [some (.own .i (meI a "Log" [])), some (.d (.tuple (rs.map rowD))), x2, x3, x4, x5, x6, x7, x8, x9, x10, x11, x12]) := by
  have hn := G.n
  rw [gIf_f]
  · rfl
  · show Fr.ret (decide ((6 : Int) < ((rs.map rowD).length : Nat))) = _
    rw [List.length_map, decide_eq_false (by omega)]
theorem i2 (G : Sound rs) : ∃ y2 y3, gFor (fun ρ => Fr.bind ((fVar 1) ρ) sEnumA) (.tup 2 (.cons (.nm 2) (.cons (.nm 3) .nil))) (gIf (fNot (fT (fCall 1 S_is_row (fCons (fVar 3) fNil)))) (gRaise "InvalidRow" "InvalidRow" ["at"] (fCons (fVar 2) fNil)) gPass) [some (.own .i (meI a "Log" [])), some (.d (.tuple (rs.map rowD))), x2, x3, x4, x5, x6, x7, x8, x9, x10, x11, x12] = .ret (.nx [some (.own .i (meI a "Log" [])), some (.d (.tuple (rs.map rowD))), y2, y3, x4, x5, x6, x7, x8, x9, x10, x11, x12]) := by
  obtain ⟨ρ1, e1, y2, y3, rfl⟩ := forO_look (t := .tup 2 (.cons (.nm 2) (.cons (.nm 3) .nil))) (gb := gIf (fNot (fT (fCall 1 S_is_row (fCons (fVar 3) fNil)))) (gRaise "InvalidRow" "InvalidRow" ["at"] (fCons (fVar 2) fNil)) gPass) (f := fun p : Nat × Rw => .tuple [nD p.1, rowD p.2]) (I := fun ρ => ∃ y2 y3, ρ = [some (.own .i (meI a "Log" [])), some (.d (.tuple (rs.map rowD))), y2, y3, x4, x5, x6, x7, x8, x9, x10, x11, x12]) (l := ixs 0 rs) (ρ := [some (.own .i (meI a "Log" [])), some (.d (.tuple (rs.map rowD))), x2, x3, x4, x5, x6, x7, x8, x9, x10, x11, x12])
    (fun p hp ρ ⟨y2, y3, e⟩ => by
      subst e
      have hm : p.2 ∈ rs := List.mem_of_getElem? (ixs_mem hp).2
      refine ⟨[some (.own .i (meI a "Log" [])), some (.d (.tuple (rs.map rowD))), some (.d (nD p.1)), some (.d (rowD p.2)), x4, x5, x6, x7, x8, x9, x10, x11, x12], [some (.own .i (meI a "Log" [])), some (.d (.tuple (rs.map rowD))), some (.d (nD p.1)), some (.d (rowD p.2)), x4, x5, x6, x7, x8, x9, x10, x11, x12], rfl, ?_, _, _, rfl⟩
      rw [gIf_f]
      · rfl
      · exact fNot_ret (b := true) (fT_ret (fCall1_ret (x := rowD p.2) rfl (S_is_row_eq (G.nm _ hm))))) ⟨_, _, rfl⟩
  exact ⟨y2, y3, (gFor_ret (xs := (ixs 0 rs).map fun p : Nat × Rw => .tuple [nD p.1, rowD p.2]) (by
    show Fr.ret (enumD 0 (rs.map rowD)) = _
    rw [enum_map]; rfl)).trans e1⟩
theorem i3 (G : Sound rs) : gSet 4 (fLc (fW (fVar 1)) (.nm 3) [3] fYes (f2 sIx (fVar 3) (fC (.int 0)))) [some (.own .i (meI a "Log" [])), some (.d (.tuple (rs.map rowD))), x2, x3, x4, x5, x6, x7, x8, x9, x10, x11, x12] = .ret (.nx [some (.own .i (meI a "Log" [])), some (.d (.tuple (rs.map rowD))), x2, x3, some (.d (.list (rs.map fun r => sD r.1))), x5, x6, x7, x8, x9, x10, x11, x12]) := by
  have hn := G.n
  exact gSet_ret (fLc_each (xs := rs.map rowD) rfl (by rw [List.length_map]; omega) (paired_map fun r _ => ⟨_, rfl, rfl, rfl⟩))
end
theorem toDs_d : ∀ ds : List PyData, toDs (ds.map Sl.d) = .ret ds
  | [] => rfl
  | d :: ds => by
    show (toDs (ds.map Sl.d)).bind _ = _
    rw [toDs_d ds]
    rfl
end TM
namespace TM
open PySem PySem.Spec PyProof.Rows L2
theorem wp_drawE {i : Nat} {ρ : Rn} {fe : Rn → Fr Sl} {n : Int} {Q : Sl → Prop} (hb : ρ[i]? = some (some .bag)) (he : fe ρ = .ret (.d (.int n))) (h0 : 0 < n) (h1 : n < 1073741824) (h : ∀ k : Nat, (k : Int) < n → Q (.d (nD k))) : (fCall 2 drawS (fCons (fVar i) (fCons fe fNil)) ρ).wp Q := by
  rw [fCall_eq, fCons_eq, fVar_eq, hb]
  simp only [bind_ret, fCons_eq, fNil_eq, he]
  rw [callS2b]
  refine wp_drawS' h0 h1 fun k k0 k1 => ?_
  obtain ⟨j, rfl⟩ := Int.eq_ofNat_of_zero_le k0
  exact h j k1
end TM
namespace TM
open PySem PySem.Spec PyProof.Rows L2
structure GI (W : List (List Nat)) (c : Ct) (os : List (List Nat)) (f t : Nat) : Prop where
  ft : f ≤ t
  dp : ∃ R, (deedsOf c).Perm ((W.take f).map (fun w => (true, w)) ++ R.map (fun w => (false, w))) ∧ (os ++ R).Perm (W.take f)
  ac : ∃ T : Nat → Nat → Nat, (∀ s i x, stp c s (i + 1) = some x → T s i < T s (i + 1)) ∧ (∀ m s i s' i', Rcv c m s i → Snd c m s' i' → T s' i' < T s i) ∧ ∀ s i x, stp c s i = some x → T s i < t
  ln : ∀ r ∈ c, r.length ≤ t
  gs : ∀ r ∈ c, ∀ x ∈ r, GS x.m x.n x.d
section
variable {W : List (List Nat)} {c : Ct} {os : List (List Nat)} {f t : Nat}
theorem GI.start {c : Ct} (h : ∀ r ∈ c, r = []) : GI W c [] 0 0 := by
  have e : deedsOf c = [] := by
    unfold deedsOf
    rw [List.flatMap_eq_nil_iff]
    intro r hr
    rw [h r hr]
    rfl
  have no : ∀ s i x, stp c s i = some x → False := fun s i x q => by
    obtain ⟨r, e1, e2⟩ := stp_some q
    rw [h r (List.mem_of_getElem? e1)] at e2
    cases e2
  refine ⟨Nat.le_refl _, ⟨[], by rw [e]; exact List.Perm.refl _, List.Perm.refl _⟩, ⟨fun _ _ => 0, fun s i x q => (no _ _ _ q).elim, fun m s i s' i' ⟨x, q, _⟩ => (no _ _ _ q).elim, fun s i x q => (no _ _ _ q).elim⟩, fun r hr => by rw [h r hr]; exact Nat.le_refl _, fun r hr x hx => ?_⟩
  rw [h r hr] at hx
  cases hx
end
end TM
namespace TM
open PySem PySem.Spec PyProof.Rows L2
def longL (ps : List (List Nat)) (l : Nat) : List (List Nat) := ps.flatMap fun p => (List.range (l + 1)).map fun k => p ++ [k]
theorem cat_lst {xs ys : List PyData} (h : xs.length + ys.length ≤ 16777216) : sAdd (.d (.list xs)) (.d (.list ys)) = .ret (.d (.list (xs ++ ys))) := by
  show ((line (xs.length + ys.length)).bind fun _ => Fr.ret (Sl.d (.list (xs ++ ys)))) = _
  rw [line_eq h, bind_ret]
def allL (ls : List Nat) : List (List Nat) := ls.foldl longL [[]]
def sumL (p : List Nat) : Nat := p.foldr (· + ·) 0
def keyD (p : List Nat) : PyData := .tuple [nD (sumL p), ptD p]
end TM
namespace TM
open PySem PySem.Spec PyProof.Rows L2
def dW (b : Bool) (x : St) : Option (List Nat) := match x.d with
  | some (b', m) => if b' = b then some m else none
  | none => none
def dlN (b : Bool) (c : Ct) (p : List Nat) (ks : List Nat) : List (List Nat) := ks.flatMap fun s => ((c.getD s []).take (pAt p s)).filterMap (dW b)
def okB (c : Ct) (p : List Nat) : Bool := (dlN false c p (List.range c.length)).all fun m => decide (m ∈ dlN true c p (List.range c.length))
end TM
namespace TM
open PySem PySem.Spec PyProof.Rows L2
structure La (n : Nat) (x : PyData) : Prop where
  c : x.canLay0 = true
  d : x.depth ≤ n
  p : pln x = true
structure LaL (n : Nat) (xs : List PyData) : Prop where
  c : PyData.canLayAll0 xs = true
  d : PyData.depthAll xs ≤ n
  p : pln.plnL xs = true
theorem LaL.nil {n : Nat} : LaL n [] := ⟨rfl, Nat.zero_le _, rfl⟩
theorem LaL.cons {n : Nat} {x : PyData} {xs : List PyData} (h : La n x) (t : LaL n xs) : LaL n (x :: xs) := ⟨by rw [PyData.canLayAll0, h.c, t.c]; rfl, by rw [PyData.depthAll]; have := h.d; have := t.d; omega, by rw [pln.plnL, h.p, t.p]; rfl⟩
theorem LaL.map {α : Type} {n : Nat} {f : α → PyData} : ∀ {l : List α}, (∀ a ∈ l, La n (f a)) → LaL n (l.map f)
  | [], _ => .nil
  | a :: l, h => .cons (h a List.mem_cons_self) (LaL.map fun b hb => h b (List.mem_cons_of_mem _ hb))
theorem La.lst {n : Nat} {xs : List PyData} (h : LaL n xs) : La (n + 1) (.list xs) := ⟨by rw [PyData.canLay0]; exact h.c, by rw [PyData.depth]; have := h.d; omega, by rw [pln]; exact h.p⟩
theorem La.tup {n : Nat} {xs : List PyData} (h : LaL n xs) : La (n + 1) (.tuple xs) := ⟨by rw [PyData.canLay0]; exact h.c, by rw [PyData.depth]; have := h.d; omega, by rw [pln]; exact h.p⟩
theorem La.int {n : Nat} {i : Int} : La n (.int i) := ⟨rfl, Nat.zero_le _, rfl⟩
theorem La.bool {n : Nat} {i : Bool} : La n (.bool i) := ⟨rfl, Nat.zero_le _, rfl⟩
theorem La.non {n : Nat} : La n .none := ⟨rfl, Nat.zero_le _, rfl⟩
theorem La.str {n : Nat} {z : Str} (h : PyData.strOk z = true) : La n (.str z) := ⟨by rw [PyData.canLay0]; exact h, Nat.zero_le _, rfl⟩
theorem La.sD {n : Nat} {w : List Nat} (h : ∀ c ∈ w, c < 1114112) : La n (sD w) := .str (strOk_of h)
theorem La.up {n m : Nat} {x : PyData} (h : La n x) (e : n ≤ m) : La m x := ⟨h.c, Nat.le_trans h.d e, h.p⟩
theorem La.sh {n : Nat} {x : PyData} (h : La n x) (e : n ≤ 64) : SeqAt.shaped x = true := by
  unfold SeqAt.shaped
  rw [h.c, decide_eq_true (Nat.le_trans h.d e)]
  rfl
theorem okLet_lt {w : List Nat} {k : Int} (h : okLet w k = true) : ∀ c ∈ w, c < 1114112 := fun c hc => by
  unfold okLet at h
  simp only [Bool.and_eq_true, List.all_eq_true] at h
  have := low_iff.mp (h.2.2 c hc)
  omega
theorem St.la {x : St} (g : GS x.m x.n x.d) : La 2 x.D := by
  refine .tup (.cons (.sD (okLet_lt g.m)) (.cons .int (.cons ?_ .nil)))
  have gd := g.d
  cases e : x.d with
  | none => exact .non
  | some d =>
    rw [e] at gd
    exact .tup (.cons (.str (sw_ok d.1)) (.cons (.sD (okLet_lt gd)) .nil))
end TM
namespace TM
open PySem PySem.Spec PyProof.Rows L2
theorem WV.mono {f : Rn → Fr Sl} {ρ : Rn} {P Q : PyData → Prop} (h : WV f ρ P) (k : ∀ x, P x → Q x) : WV f ρ Q := ⟨Fr.wp_mono (fun s ⟨x, e, q⟩ => ⟨x, e, k x q⟩) h.ok⟩
/-- what a function that draws gives -/
structure WC (f : Fr Sl) (P : PyData → Prop) : Prop where
  ok : f.wp fun s => ∃ x, s = .d x ∧ P x
theorem WC.mono {f : Fr Sl} {P Q : PyData → Prop} (h : WC f P) (k : ∀ x, P x → Q x) : WC f Q := ⟨Fr.wp_mono (fun s ⟨x, e, q⟩ => ⟨x, e, k x q⟩) h.ok⟩
theorem WC.ret {f : Fr Sl} {x : PyData} {P : PyData → Prop} (e : f = .ret (.d x)) (h : P x) : WC f P := ⟨by rw [e]; exact ⟨x, rfl, h⟩⟩
structure WE (fs : List FArg) (ρ : Rn) (P : List Sl → Prop) : Prop where
  ok : (evalF fs ρ).wp P
structure WG (g : Rn → Fr Out) (ρ : Rn) (P : Out → Prop) : Prop where
  ok : (g ρ).wp P
theorem WG.mono {g : Rn → Fr Out} {ρ : Rn} {P Q : Out → Prop} (h : WG g ρ P) (k : ∀ x, P x → Q x) : WG g ρ Q := ⟨Fr.wp_mono k h.ok⟩
theorem we_dat {f : Rn → Fr Sl} {r : List FArg} {ρ : Rn} {P : List Sl → Prop} (h : WV f ρ fun x => WE r ρ fun xs => P (.d x :: xs)) : WE (.dat f :: r) ρ P := ⟨by
  rw [evalF_dat]
  refine Fr.wp_bind.mpr (Fr.wp_mono (fun s ⟨x, e, q⟩ => ?_) h.ok)
  subst e
  rw [toD_eq, bind_ret]
  exact Fr.wp_bind.mpr q.ok⟩
theorem we_nil {ρ : Rn} {P : List Sl → Prop} (h : P []) : WE [] ρ P := ⟨h⟩
theorem wg_par {is : List Nat} {fs : List FArg} {g : Rn → Fr Out} {ρ : Rn} {P : Out → Prop} (h : WE fs ρ fun ss => WG g (fillR is ss ρ) P) : WG (gSeq (gParF is fs) g) ρ P := ⟨by
  rw [gSeq_eq, gParF_eq]
  exact Fr.wp_bind.mpr (wp_bindX' (Fr.wp_mono (fun _ q => q.ok) h.ok))⟩
theorem wg_for {fi : Rn → Fr (List PyData)} {t : Tg} {gb g : Rn → Fr Out} {ρ : Rn} {xs : List PyData} {Inv : Rn → Prop} {P : Out → Prop} (e : fi ρ = .ret xs) (h : ∀ x ∈ xs, ∀ ρ, Inv ρ → ∃ ρ1, setT t x ρ = some ρ1 ∧ WG gb ρ1 fun o => ∃ ρ2, (o = .nx ρ2 ∨ o = .ct ρ2) ∧ Inv ρ2) (h0 : Inv ρ) (q : ∀ ρ, Inv ρ → WG g ρ P) : WG (gSeq (gFor fi t gb) g) ρ P := ⟨by
  rw [gSeq_eq, gFor_ret e]
  exact Fr.wp_bind.mpr (wp_for (fun x hx ρ hi => by
    obtain ⟨ρ1, e1, q1⟩ := h x hx ρ hi
    exact ⟨ρ1, e1, q1.ok⟩) h0 fun ρ hi => (q ρ hi).ok)⟩
theorem wgs_ret {f : Rn → Fr Sl} {ρ : Rn} {P : Out → Prop} (h : WV f ρ fun x => P (.rt (.d x))) : WG (gRet f) ρ P := ⟨wg_ret h⟩
end TM
namespace TM
open PySem PySem.Spec PyProof.Rows L2
section
variable {rs : List Rw} {D : PyData} {pts : List (List Nat)}
structure F13 (rs : List Rw) (D : PyData) (pts : List (List Nat)) : Prop where
  G : Good rs
  h0 : 0 < rs.length
  h3 : rs.length ≤ 3
  lg : ∃ P od, LogOk rs D P od
  pt : S__law_points [.d (ptD (lens (ctOf rs)))] = .ret (.d (.list (pts.map ptD)))
  ne : pts ≠ []
  len : pts.length ≤ 10000
  ok : ∀ p ∈ pts, Paired (fun a r => a ≤ List.length r) p (ctOf rs)
  all : ∀ p, Paired (fun a r => a ≤ List.length r) p (ctOf rs) → p ∈ pts
  srt : pts.map keyD = sortD ((allL (lens (ctOf rs))).map keyD)
theorem F13.cl (F : F13 rs D pts) : (ctOf rs).length ≤ 1000 := by
  have := F.h3
  unfold ctOf
  rw [List.length_map]
  omega
structure WA (f : Rn → Fr Sl) (ρ : Rn) (x : PyData) : Prop where
  ok : (f ρ).wp fun s => s = .d x
theorem WA.v {f : Rn → Fr Sl} {ρ : Rn} {x : PyData} (h : WA f ρ x) {P : PyData → Prop} (hp : P x) : WV f ρ P := ⟨Fr.wp_mono (fun s e => ⟨x, e, hp⟩) h.ok⟩
end
end TM
namespace TM
open PySem PySem.Spec PyProof.Rows L2
theorem gRaise_ret {c code : Str} {fs : List Str} {fr : Rn → Fr (List Sl)} {ρ : Rn} {xs : List PyData} (h : fr ρ = .ret (xs.map Sl.d)) (hl : xs.length = fs.length) (h7 : fs.length ≤ 700) : gRaise c code fs fr ρ = .ret (.ex ρ (errD c code fs xs)) := by
  show (fr ρ).bindX ρ _ = _
  rw [h]
  show ((toDs (xs.map Sl.d)).bind fun ds => if ds.length = fs.length ∧ ds.length ≤ 700 then Fr.ret (Out.ex ρ (errD c code fs ds)) else .bad) = _
  rw [toDs_d, bind_ret, if_pos ⟨hl, by omega⟩]
end TM
namespace TM
open PySem PySem.Spec PyProof.Rows L2
theorem WT.mono {f : Rn → Fr Bool} {ρ : Rn} {P Q : Bool → Prop} (h : WT f ρ P) (k : ∀ b, P b → Q b) : WT f ρ Q := ⟨Fr.wp_mono k h.ok⟩
theorem wgt_pass {ft : Rn → Fr Bool} {g : Rn → Fr Out} {ρ : Rn} {P : Out → Prop} (h : WT ft ρ fun b => b = false) (q : P (.nx ρ)) : WG (gIf ft g gPass) ρ P := ⟨by
  rw [gIf_eq]
  refine wp_bindX' (Fr.wp_mono (fun b e => ?_) h.ok)
  subst e
  exact q⟩
theorem wgt_skip {ft : Rn → Fr Bool} {g g' : Rn → Fr Out} {ρ : Rn} {P : Out → Prop} (h : WT ft ρ fun b => b = false) (q : WG g' ρ P) : WG (gSeq (gIf ft g gPass) g') ρ P := ⟨by
  rw [gSeq_eq]
  exact Fr.wp_bind.mpr (wgt_pass h q.ok).ok⟩
theorem wt_nsame {n : Nat} {fa fb : Rn → Fr Sl} {ρ : Rn} (h : WV fa ρ fun a => WV fb ρ fun b => b = a ∧ sameOk n a = true) : WT (fNot (fT (fCall 2 (S__law_same n) (fCons fa (fCons fb fNil))))) ρ fun b => b = false :=
  wt_not (wt_val (wv_call2 (h.mono fun a q => q.mono fun b ⟨e, k⟩ => by subst e; exact ⟨.bool true, same_ok n _ k, true, rfl, rfl⟩)))
theorem wv_same {n : Nat} {fa fb : Rn → Fr Sl} {ρ : Rn} {P : PyData → Prop} (h : WV fa ρ fun a => WV fb ρ fun b => b = a ∧ sameOk n a = true) (q : P (.bool true)) : WV (fCall 2 (S__law_same n) (fCons fa (fCons fb fNil))) ρ P :=
  wv_call2 (h.mono fun a z => z.mono fun b ⟨e, k⟩ => by subst e; exact ⟨.bool true, same_ok n _ k, q⟩)
end TM
namespace TM
open PySem PySem.Spec PyProof.Rows L2
theorem WC.fn {n : Nat} {g : Rn → Fr Out} {ss : List Sl} {P : PyData → Prop} (h : WG g (startR n ss) fun o => ∃ x, o = .rt (.d x) ∧ P x) : WC (fnSem n g ss) P := ⟨by
  show (((g (startR n ss)).noX).bind outS).wp _
  refine Fr.wp_bind.mpr (Fr.wp_mono (fun o ⟨x, e, q⟩ => ?_) (wp_noX' h.ok))
  subst e
  exact ⟨x, rfl, q⟩⟩
end TM
namespace TM
open PySem PySem.Spec PyProof.Rows L2
/-- a loop that looks until it finds -/
theorem forO_seek {α : Type} {t : Tg} {gb : Rn → Fr Out} {f : α → PyData} {I : Rn → Prop} {E : α → Option PyData} : ∀ {l : List α} {ρ : Rn}, (∀ a ∈ l, ∀ ρ, I ρ → ∃ ρ1 ρ2, setT t (f a) ρ = some ρ1 ∧ ((E a = none ∧ gb ρ1 = .ret (.nx ρ2) ∧ I ρ2) ∨ ∃ e, E a = some e ∧ gb ρ1 = .ret (.ex ρ2 e))) → I ρ →
    ∃ ρ', (l.findSome? E = none ∧ forO t gb (l.map f) ρ = .ret (.nx ρ') ∧ I ρ') ∨ ∃ e, l.findSome? E = some e ∧ forO t gb (l.map f) ρ = .ret (.ex ρ' e)
  | [], ρ, _, h0 => ⟨ρ, .inl ⟨rfl, rfl, h0⟩⟩
  | a :: l, ρ, h, h0 => by
    obtain ⟨ρ1, ρ2, e1, h2⟩ := h a List.mem_cons_self ρ h0
    rcases h2 with ⟨n2, e2, i1⟩ | ⟨e, n2, e2⟩
    · obtain ⟨ρ', h3⟩ := forO_seek (l := l) (fun b hb => h b (List.mem_cons_of_mem _ hb)) i1
      have ef : forO t gb ((a :: l).map f) ρ = forO t gb (l.map f) ρ2 := by
        rw [List.map_cons]
        show ((ofO (setT t (f a) ρ)).bind _) = _
        rw [e1, ofO_some, bind_ret, e2, bind_ret]
      refine ⟨ρ', ?_⟩
      rw [List.findSome?_cons, n2, ef]
      exact h3
    · refine ⟨ρ2, .inr ⟨e, ?_, ?_⟩⟩
      · rw [List.findSome?_cons, n2]
      · rw [List.map_cons]
        show ((ofO (setT t (f a) ρ)).bind _) = _
        rw [e1, ofO_some, bind_ret, e2]
        rfl
abbrev GwR := List Nat × List PyData
def gD (g : GwR) : PyData := .tuple [sD g.1, .list g.2]
def eTM (z : Str) (n : Int) : PyData := errD "TooMany" "TooMany" ["subject", "most"] [.str z, .int n]
def eRow (k : Nat) : PyData := errD "InvalidRow" "InvalidRow" ["at"] [nD k]
def eDup (d : PyData) : PyData := errD "DuplicateName" "DuplicateName" ["name"] [d]
def eStep (d : PyData) (k : Nat) : PyData := errD "InvalidStep" "InvalidStep" ["process", "index"] [d, nD k]
section
variable {ds : List PyData} {gs : List GwR} {a : Int} {x2 x3 x4 x5 x6 x7 x8 x9 x10 x11 x12 : Option Sl}
theorem n1 (h : ds.length ≤ 6) : gIf (fB (f2 sGt (f1 sLen (fVar 1)) (fC (.int 6)))) (gRaise "TooMany" "TooMany" ["subject", "most"] (fCons (fC (.str "processes")) (fCons (fC (.int 6)) fNil))) gPass [some (.own .i (meI a "Log" [])), some (.d (.tuple ds)), x2, x3, x4, x5, x6, x7, x8, x9, x10, x11, x12] = .ret (.nx [some (.own .i (meI a "Log" [])), some (.d (.tuple ds)), x2, x3, x4, x5, x6, x7, x8, x9, x10, x11, x12]) := by
  rw [gIf_f]
  · rfl
  · show Fr.ret (decide ((6 : Int) < (ds.length : Nat))) = _
    rw [decide_eq_false (by omega)]
theorem n2 {R : PyData → Bool} (hR : ∀ d ∈ ds, S_is_row [.d d] = .ret (.d (.bool (R d)))) : ∃ ρ', ((ixs 0 ds).findSome? (fun p => if R p.2 = true then none else some (eRow p.1)) = none ∧ gFor (fun ρ => Fr.bind ((fVar 1) ρ) sEnumA) (.tup 2 (.cons (.nm 2) (.cons (.nm 3) .nil))) (gIf (fNot (fT (fCall 1 S_is_row (fCons (fVar 3) fNil)))) (gRaise "InvalidRow" "InvalidRow" ["at"] (fCons (fVar 2) fNil)) gPass) [some (.own .i (meI a "Log" [])), some (.d (.tuple ds)), x2, x3, x4, x5, x6, x7, x8, x9, x10, x11, x12] = .ret (.nx ρ') ∧ ∃ y2 y3, ρ' = [some (.own .i (meI a "Log" [])), some (.d (.tuple ds)), y2, y3, x4, x5, x6, x7, x8, x9, x10, x11, x12]) ∨ ∃ e, (ixs 0 ds).findSome? (fun p => if R p.2 = true then none else some (eRow p.1)) = some e ∧ gFor (fun ρ => Fr.bind ((fVar 1) ρ) sEnumA) (.tup 2 (.cons (.nm 2) (.cons (.nm 3) .nil))) (gIf (fNot (fT (fCall 1 S_is_row (fCons (fVar 3) fNil)))) (gRaise "InvalidRow" "InvalidRow" ["at"] (fCons (fVar 2) fNil)) gPass) [some (.own .i (meI a "Log" [])), some (.d (.tuple ds)), x2, x3, x4, x5, x6, x7, x8, x9, x10, x11, x12] = .ret (.ex ρ' e) := by
  have hw : gFor (fun ρ => Fr.bind ((fVar 1) ρ) sEnumA) (.tup 2 (.cons (.nm 2) (.cons (.nm 3) .nil))) (gIf (fNot (fT (fCall 1 S_is_row (fCons (fVar 3) fNil)))) (gRaise "InvalidRow" "InvalidRow" ["at"] (fCons (fVar 2) fNil)) gPass) [some (.own .i (meI a "Log" [])), some (.d (.tuple ds)), x2, x3, x4, x5, x6, x7, x8, x9, x10, x11, x12] = forO (.tup 2 (.cons (.nm 2) (.cons (.nm 3) .nil))) (gIf (fNot (fT (fCall 1 S_is_row (fCons (fVar 3) fNil)))) (gRaise "InvalidRow" "InvalidRow" ["at"] (fCons (fVar 2) fNil)) gPass) ((ixs 0 ds).map (fun p : Nat × PyData => .tuple [nD p.1, p.2])) [some (.own .i (meI a "Log" [])), some (.d (.tuple ds)), x2, x3, x4, x5, x6, x7, x8, x9, x10, x11, x12] := gFor_ret (by show Fr.ret (enumD 0 ds) = _; rw [show enumD 0 ds = enumD 0 (ds.map fun d => d) by rw [List.map_id'], enum_map]; rfl)
  rw [hw]
  exact forO_seek (t := .tup 2 (.cons (.nm 2) (.cons (.nm 3) .nil))) (gb := (gIf (fNot (fT (fCall 1 S_is_row (fCons (fVar 3) fNil)))) (gRaise "InvalidRow" "InvalidRow" ["at"] (fCons (fVar 2) fNil)) gPass)) (f := fun p : Nat × PyData => .tuple [nD p.1, p.2]) (I := fun ρ => ∃ y2 y3, ρ = [some (.own .i (meI a "Log" [])), some (.d (.tuple ds)), y2, y3, x4, x5, x6, x7, x8, x9, x10, x11, x12]) (E := fun p => if R p.2 = true then none else some (eRow p.1)) (l := ixs 0 ds) (ρ := [some (.own .i (meI a "Log" [])), some (.d (.tuple ds)), x2, x3, x4, x5, x6, x7, x8, x9, x10, x11, x12])
    (fun p hp ρ ⟨y2, y3, e⟩ => by
      subst e
      have hm : p.2 ∈ ds := List.mem_of_getElem? (ixs_mem hp).2
      have q := hR _ hm
      refine ⟨[some (.own .i (meI a "Log" [])), some (.d (.tuple ds)), some (.d (nD p.1)), some (.d p.2), x4, x5, x6, x7, x8, x9, x10, x11, x12], [some (.own .i (meI a "Log" [])), some (.d (.tuple ds)), some (.d (nD p.1)), some (.d p.2), x4, x5, x6, x7, x8, x9, x10, x11, x12], rfl, ?_⟩
      cases hb : R p.2 with
      | true =>
        rw [hb] at q
        refine .inl ⟨if_pos rfl, ?_, _, _, rfl⟩
        rw [gIf_f]
        · rfl
        · exact fNot_ret (b := true) (fT_ret (fCall1_ret (x := p.2) rfl q))
      | false =>
        rw [hb] at q
        refine .inr ⟨_, if_neg (by decide), ?_⟩
        refine (gIf_t (fNot_ret (b := false) (fT_ret (fCall1_ret (x := p.2) rfl q)))).trans ?_
        exact gRaise_ret (xs := [nD p.1]) rfl rfl (by decide)) ⟨_, _, rfl⟩
theorem n3 (h : gs.length ≤ 1000) : gSet 4 (fLc (fW (fVar 1)) (.nm 3) [3] fYes (f2 sIx (fVar 3) (fC (.int 0)))) [some (.own .i (meI a "Log" [])), some (.d (.tuple (gs.map gD))), x2, x3, x4, x5, x6, x7, x8, x9, x10, x11, x12] = .ret (.nx [some (.own .i (meI a "Log" [])), some (.d (.tuple (gs.map gD))), x2, x3, some (.d (.list (gs.map fun g => sD g.1))), x5, x6, x7, x8, x9, x10, x11, x12]) :=
  gSet_ret (fLc_each (xs := gs.map gD) rfl (by rw [List.length_map]; omega) (paired_map fun r _ => ⟨_, rfl, rfl, rfl⟩))
theorem n4  : ∃ ρ', ((ixs 0 gs).findSome? (fun p => if p.2.1 ∈ (gs.take p.1).map (·.1) then some (eDup (sD p.2.1)) else none) = none ∧ gFor (fun ρ => Fr.bind ((fVar 4) ρ) sEnumA) (.tup 2 (.cons (.nm 2) (.cons (.nm 5) .nil))) (gIf (fB (f2 sIn (fVar 5) (fSl (fVar 4) fNoP (fP (fVar 2))))) (gRaise "DuplicateName" "DuplicateName" ["name"] (fCons (fVar 5) fNil)) gPass) [some (.own .i (meI a "Log" [])), some (.d (.tuple (gs.map gD))), x2, x3, some (.d (.list (gs.map fun g => sD g.1))), x5, x6, x7, x8, x9, x10, x11, x12] = .ret (.nx ρ') ∧ ∃ y2 y5, ρ' = [some (.own .i (meI a "Log" [])), some (.d (.tuple (gs.map gD))), y2, x3, some (.d (.list (gs.map fun g => sD g.1))), y5, x6, x7, x8, x9, x10, x11, x12]) ∨ ∃ e, (ixs 0 gs).findSome? (fun p => if p.2.1 ∈ (gs.take p.1).map (·.1) then some (eDup (sD p.2.1)) else none) = some e ∧ gFor (fun ρ => Fr.bind ((fVar 4) ρ) sEnumA) (.tup 2 (.cons (.nm 2) (.cons (.nm 5) .nil))) (gIf (fB (f2 sIn (fVar 5) (fSl (fVar 4) fNoP (fP (fVar 2))))) (gRaise "DuplicateName" "DuplicateName" ["name"] (fCons (fVar 5) fNil)) gPass) [some (.own .i (meI a "Log" [])), some (.d (.tuple (gs.map gD))), x2, x3, some (.d (.list (gs.map fun g => sD g.1))), x5, x6, x7, x8, x9, x10, x11, x12] = .ret (.ex ρ' e) := by
  have hw : gFor (fun ρ => Fr.bind ((fVar 4) ρ) sEnumA) (.tup 2 (.cons (.nm 2) (.cons (.nm 5) .nil))) (gIf (fB (f2 sIn (fVar 5) (fSl (fVar 4) fNoP (fP (fVar 2))))) (gRaise "DuplicateName" "DuplicateName" ["name"] (fCons (fVar 5) fNil)) gPass) [some (.own .i (meI a "Log" [])), some (.d (.tuple (gs.map gD))), x2, x3, some (.d (.list (gs.map fun g => sD g.1))), x5, x6, x7, x8, x9, x10, x11, x12] = forO (.tup 2 (.cons (.nm 2) (.cons (.nm 5) .nil))) (gIf (fB (f2 sIn (fVar 5) (fSl (fVar 4) fNoP (fP (fVar 2))))) (gRaise "DuplicateName" "DuplicateName" ["name"] (fCons (fVar 5) fNil)) gPass) ((ixs 0 gs).map (fun p : Nat × GwR => .tuple [nD p.1, sD p.2.1])) [some (.own .i (meI a "Log" [])), some (.d (.tuple (gs.map gD))), x2, x3, some (.d (.list (gs.map fun g => sD g.1))), x5, x6, x7, x8, x9, x10, x11, x12] := gFor_ret (by show Fr.ret (enumD 0 (gs.map fun g => sD g.1)) = _; rw [enum_map]; rfl)
  rw [hw]
  exact forO_seek (t := .tup 2 (.cons (.nm 2) (.cons (.nm 5) .nil))) (gb := (gIf (fB (f2 sIn (fVar 5) (fSl (fVar 4) fNoP (fP (fVar 2))))) (gRaise "DuplicateName" "DuplicateName" ["name"] (fCons (fVar 5) fNil)) gPass)) (f := fun p : Nat × GwR => .tuple [nD p.1, sD p.2.1]) (I := fun ρ => ∃ y2 y5, ρ = [some (.own .i (meI a "Log" [])), some (.d (.tuple (gs.map gD))), y2, x3, some (.d (.list (gs.map fun g => sD g.1))), y5, x6, x7, x8, x9, x10, x11, x12]) (E := fun p => if p.2.1 ∈ (gs.take p.1).map (·.1) then some (eDup (sD p.2.1)) else none) (l := ixs 0 gs) (ρ := [some (.own .i (meI a "Log" [])), some (.d (.tuple (gs.map gD))), x2, x3, some (.d (.list (gs.map fun g => sD g.1))), x5, x6, x7, x8, x9, x10, x11, x12])
    (fun p hp ρ ⟨y2, y5, e⟩ => by
      subst e
      have q : fB (f2 sIn (fVar 5) (fSl (fVar 4) fNoP (fP (fVar 2)))) [some (.own .i (meI a "Log" [])), some (.d (.tuple (gs.map gD))), some (.d (nD p.1)), x3, some (.d (.list (gs.map fun g => sD g.1))), some (.d (sD p.2.1)), x6, x7, x8, x9, x10, x11, x12] = .ret (decide (p.2.1 ∈ (gs.take p.1).map (·.1))) := by
        refine fB_ret (f2_ret (x := .d (sD p.2.1)) (y := .d (.list (((gs.take p.1).map (·.1)).map sD))) rfl ?_ (sIn_nms _ _))
        show Fr.ret (Sl.d (.list (cutD (gs.map fun g => sD g.1) none (some (p.1 : Int))))) = _
        rw [cut_take, List.map_map, ← List.map_take]
        rfl
      refine ⟨[some (.own .i (meI a "Log" [])), some (.d (.tuple (gs.map gD))), some (.d (nD p.1)), x3, some (.d (.list (gs.map fun g => sD g.1))), some (.d (sD p.2.1)), x6, x7, x8, x9, x10, x11, x12], [some (.own .i (meI a "Log" [])), some (.d (.tuple (gs.map gD))), some (.d (nD p.1)), x3, some (.d (.list (gs.map fun g => sD g.1))), some (.d (sD p.2.1)), x6, x7, x8, x9, x10, x11, x12], rfl, ?_⟩
      by_cases hb : p.2.1 ∈ (gs.take p.1).map (·.1)
      · rw [decide_eq_true hb] at q
        refine .inr ⟨_, if_pos hb, (gIf_t q).trans ?_⟩
        exact gRaise_ret (xs := [sD p.2.1]) rfl rfl (by decide)
      · rw [decide_eq_false hb] at q
        exact .inl ⟨if_neg hb, (gIf_f q).trans rfl, _, _, rfl⟩) ⟨_, _, rfl⟩
theorem n5  : ∃ ρ', ((gs).findSome? (fun g => if 20 < g.2.length then some (eTM "steps" 20) else none) = none ∧ gFor (fW (fVar 1)) (.tup 2 (.cons (.nm 6) (.cons (.nm 7) .nil))) (gIf (fB (f2 sGt (f1 sLen (fVar 7)) (fC (.int 20)))) (gRaise "TooMany" "TooMany" ["subject", "most"] (fCons (fC (.str "steps")) (fCons (fC (.int 20)) fNil))) gPass) [some (.own .i (meI a "Log" [])), some (.d (.tuple (gs.map gD))), x2, x3, some (.d (.list (gs.map fun g => sD g.1))), x5, x6, x7, x8, x9, x10, x11, x12] = .ret (.nx ρ') ∧ ∃ y6 y7, ρ' = [some (.own .i (meI a "Log" [])), some (.d (.tuple (gs.map gD))), x2, x3, some (.d (.list (gs.map fun g => sD g.1))), x5, y6, y7, x8, x9, x10, x11, x12]) ∨ ∃ e, (gs).findSome? (fun g => if 20 < g.2.length then some (eTM "steps" 20) else none) = some e ∧ gFor (fW (fVar 1)) (.tup 2 (.cons (.nm 6) (.cons (.nm 7) .nil))) (gIf (fB (f2 sGt (f1 sLen (fVar 7)) (fC (.int 20)))) (gRaise "TooMany" "TooMany" ["subject", "most"] (fCons (fC (.str "steps")) (fCons (fC (.int 20)) fNil))) gPass) [some (.own .i (meI a "Log" [])), some (.d (.tuple (gs.map gD))), x2, x3, some (.d (.list (gs.map fun g => sD g.1))), x5, x6, x7, x8, x9, x10, x11, x12] = .ret (.ex ρ' e) := by
  have hw : gFor (fW (fVar 1)) (.tup 2 (.cons (.nm 6) (.cons (.nm 7) .nil))) (gIf (fB (f2 sGt (f1 sLen (fVar 7)) (fC (.int 20)))) (gRaise "TooMany" "TooMany" ["subject", "most"] (fCons (fC (.str "steps")) (fCons (fC (.int 20)) fNil))) gPass) [some (.own .i (meI a "Log" [])), some (.d (.tuple (gs.map gD))), x2, x3, some (.d (.list (gs.map fun g => sD g.1))), x5, x6, x7, x8, x9, x10, x11, x12] = forO (.tup 2 (.cons (.nm 6) (.cons (.nm 7) .nil))) (gIf (fB (f2 sGt (f1 sLen (fVar 7)) (fC (.int 20)))) (gRaise "TooMany" "TooMany" ["subject", "most"] (fCons (fC (.str "steps")) (fCons (fC (.int 20)) fNil))) gPass) ((gs).map (gD)) [some (.own .i (meI a "Log" [])), some (.d (.tuple (gs.map gD))), x2, x3, some (.d (.list (gs.map fun g => sD g.1))), x5, x6, x7, x8, x9, x10, x11, x12] := gFor_ret (by rfl)
  rw [hw]
  exact forO_seek (t := .tup 2 (.cons (.nm 6) (.cons (.nm 7) .nil))) (gb := (gIf (fB (f2 sGt (f1 sLen (fVar 7)) (fC (.int 20)))) (gRaise "TooMany" "TooMany" ["subject", "most"] (fCons (fC (.str "steps")) (fCons (fC (.int 20)) fNil))) gPass)) (f := gD) (I := fun ρ => ∃ y6 y7, ρ = [some (.own .i (meI a "Log" [])), some (.d (.tuple (gs.map gD))), x2, x3, some (.d (.list (gs.map fun g => sD g.1))), x5, y6, y7, x8, x9, x10, x11, x12]) (E := fun g => if 20 < g.2.length then some (eTM "steps" 20) else none) (l := gs) (ρ := [some (.own .i (meI a "Log" [])), some (.d (.tuple (gs.map gD))), x2, x3, some (.d (.list (gs.map fun g => sD g.1))), x5, x6, x7, x8, x9, x10, x11, x12])
    (fun p hp ρ ⟨y6, y7, e⟩ => by
      subst e
      have q : fB (f2 sGt (f1 sLen (fVar 7)) (fC (.int 20))) [some (.own .i (meI a "Log" [])), some (.d (.tuple (gs.map gD))), x2, x3, some (.d (.list (gs.map fun g => sD g.1))), x5, some (.d (sD p.1)), some (.d (.list p.2)), x8, x9, x10, x11, x12] = .ret (decide (20 < p.2.length)) := by
        show Fr.ret (decide ((20 : Int) < (p.2.length : Nat))) = _
        congr 1
        exact decide_eq_decide.mpr (by omega)
      refine ⟨[some (.own .i (meI a "Log" [])), some (.d (.tuple (gs.map gD))), x2, x3, some (.d (.list (gs.map fun g => sD g.1))), x5, some (.d (sD p.1)), some (.d (.list p.2)), x8, x9, x10, x11, x12], [some (.own .i (meI a "Log" [])), some (.d (.tuple (gs.map gD))), x2, x3, some (.d (.list (gs.map fun g => sD g.1))), x5, some (.d (sD p.1)), some (.d (.list p.2)), x8, x9, x10, x11, x12], rfl, ?_⟩
      by_cases hb : 20 < p.2.length
      · rw [decide_eq_true hb] at q
        refine .inr ⟨_, if_pos hb, (gIf_t q).trans ?_⟩
        exact gRaise_ret (xs := [.str "steps", .int 20]) rfl rfl (by decide)
      · rw [decide_eq_false hb] at q
        exact .inl ⟨if_neg hb, (gIf_f q).trans rfl, _, _, rfl⟩) ⟨_, _, rfl⟩
theorem n6i {g : GwR} {R : PyData → Bool} (hR : ∀ d ∈ g.2, S_is_step [.d d] = .ret (.d (.bool (R d)))) : ∃ ρ', ((ixs 0 g.2).findSome? (fun p => if R p.2 = true then none else some (eStep (sD g.1) p.1)) = none ∧ gFor (fun ρ => Fr.bind ((fVar 7) ρ) sEnumA) (.tup 2 (.cons (.nm 8) (.cons (.nm 9) .nil))) (gIf (fNot (fT (fCall 1 S_is_step (fCons (fVar 9) fNil)))) (gRaise "InvalidStep" "InvalidStep" ["process", "index"] (fCons (fVar 5) (fCons (fVar 8) fNil))) gPass) [some (.own .i (meI a "Log" [])), some (.d (.tuple (gs.map gD))), x2, x3, some (.d (.list (gs.map fun g => sD g.1))), some (.d (sD g.1)), x6, some (.d (.list g.2)), x8, x9, x10, x11, x12] = .ret (.nx ρ') ∧ ∃ y8 y9, ρ' = [some (.own .i (meI a "Log" [])), some (.d (.tuple (gs.map gD))), x2, x3, some (.d (.list (gs.map fun g => sD g.1))), some (.d (sD g.1)), x6, some (.d (.list g.2)), y8, y9, x10, x11, x12]) ∨ ∃ e, (ixs 0 g.2).findSome? (fun p => if R p.2 = true then none else some (eStep (sD g.1) p.1)) = some e ∧ gFor (fun ρ => Fr.bind ((fVar 7) ρ) sEnumA) (.tup 2 (.cons (.nm 8) (.cons (.nm 9) .nil))) (gIf (fNot (fT (fCall 1 S_is_step (fCons (fVar 9) fNil)))) (gRaise "InvalidStep" "InvalidStep" ["process", "index"] (fCons (fVar 5) (fCons (fVar 8) fNil))) gPass) [some (.own .i (meI a "Log" [])), some (.d (.tuple (gs.map gD))), x2, x3, some (.d (.list (gs.map fun g => sD g.1))), some (.d (sD g.1)), x6, some (.d (.list g.2)), x8, x9, x10, x11, x12] = .ret (.ex ρ' e) := by
  have hw : gFor (fun ρ => Fr.bind ((fVar 7) ρ) sEnumA) (.tup 2 (.cons (.nm 8) (.cons (.nm 9) .nil))) (gIf (fNot (fT (fCall 1 S_is_step (fCons (fVar 9) fNil)))) (gRaise "InvalidStep" "InvalidStep" ["process", "index"] (fCons (fVar 5) (fCons (fVar 8) fNil))) gPass) [some (.own .i (meI a "Log" [])), some (.d (.tuple (gs.map gD))), x2, x3, some (.d (.list (gs.map fun g => sD g.1))), some (.d (sD g.1)), x6, some (.d (.list g.2)), x8, x9, x10, x11, x12] = forO (.tup 2 (.cons (.nm 8) (.cons (.nm 9) .nil))) (gIf (fNot (fT (fCall 1 S_is_step (fCons (fVar 9) fNil)))) (gRaise "InvalidStep" "InvalidStep" ["process", "index"] (fCons (fVar 5) (fCons (fVar 8) fNil))) gPass) ((ixs 0 g.2).map (fun p : Nat × PyData => .tuple [nD p.1, p.2])) [some (.own .i (meI a "Log" [])), some (.d (.tuple (gs.map gD))), x2, x3, some (.d (.list (gs.map fun g => sD g.1))), some (.d (sD g.1)), x6, some (.d (.list g.2)), x8, x9, x10, x11, x12] := gFor_ret (by show Fr.ret (enumD 0 g.2) = _; rw [show enumD 0 g.2 = enumD 0 (g.2.map fun d => d) by rw [List.map_id'], enum_map]; rfl)
  rw [hw]
  exact forO_seek (t := .tup 2 (.cons (.nm 8) (.cons (.nm 9) .nil))) (gb := (gIf (fNot (fT (fCall 1 S_is_step (fCons (fVar 9) fNil)))) (gRaise "InvalidStep" "InvalidStep" ["process", "index"] (fCons (fVar 5) (fCons (fVar 8) fNil))) gPass)) (f := fun p : Nat × PyData => .tuple [nD p.1, p.2]) (I := fun ρ => ∃ y8 y9, ρ = [some (.own .i (meI a "Log" [])), some (.d (.tuple (gs.map gD))), x2, x3, some (.d (.list (gs.map fun g => sD g.1))), some (.d (sD g.1)), x6, some (.d (.list g.2)), y8, y9, x10, x11, x12]) (E := fun p => if R p.2 = true then none else some (eStep (sD g.1) p.1)) (l := ixs 0 g.2) (ρ := [some (.own .i (meI a "Log" [])), some (.d (.tuple (gs.map gD))), x2, x3, some (.d (.list (gs.map fun g => sD g.1))), some (.d (sD g.1)), x6, some (.d (.list g.2)), x8, x9, x10, x11, x12])
    (fun p hp ρ ⟨y8, y9, e⟩ => by
      subst e
      have hm : p.2 ∈ g.2 := List.mem_of_getElem? (ixs_mem hp).2
      have q := hR _ hm
      refine ⟨[some (.own .i (meI a "Log" [])), some (.d (.tuple (gs.map gD))), x2, x3, some (.d (.list (gs.map fun g => sD g.1))), some (.d (sD g.1)), x6, some (.d (.list g.2)), some (.d (nD p.1)), some (.d p.2), x10, x11, x12], [some (.own .i (meI a "Log" [])), some (.d (.tuple (gs.map gD))), x2, x3, some (.d (.list (gs.map fun g => sD g.1))), some (.d (sD g.1)), x6, some (.d (.list g.2)), some (.d (nD p.1)), some (.d p.2), x10, x11, x12], rfl, ?_⟩
      cases hb : R p.2 with
      | true =>
        rw [hb] at q
        refine .inl ⟨if_pos rfl, ?_, _, _, rfl⟩
        rw [gIf_f]
        · rfl
        · exact fNot_ret (b := true) (fT_ret (fCall1_ret (x := p.2) rfl q))
      | false =>
        rw [hb] at q
        refine .inr ⟨_, if_neg (by decide), ?_⟩
        refine (gIf_t (fNot_ret (b := false) (fT_ret (fCall1_ret (x := p.2) rfl q)))).trans ?_
        exact gRaise_ret (xs := [sD g.1, nD p.1]) rfl rfl (by decide)) ⟨_, _, rfl⟩
theorem n6 {R : PyData → Bool} (hR : ∀ g ∈ gs, ∀ d ∈ g.2, S_is_step [.d d] = .ret (.d (.bool (R d)))) : ∃ ρ', ((gs).findSome? (fun g => (ixs 0 g.2).findSome? fun p => if R p.2 = true then none else some (eStep (sD g.1) p.1)) = none ∧ gFor (fW (fVar 1)) (.tup 2 (.cons (.nm 5) (.cons (.nm 7) .nil))) (gFor (fun ρ => Fr.bind ((fVar 7) ρ) sEnumA) (.tup 2 (.cons (.nm 8) (.cons (.nm 9) .nil))) (gIf (fNot (fT (fCall 1 S_is_step (fCons (fVar 9) fNil)))) (gRaise "InvalidStep" "InvalidStep" ["process", "index"] (fCons (fVar 5) (fCons (fVar 8) fNil))) gPass)) [some (.own .i (meI a "Log" [])), some (.d (.tuple (gs.map gD))), x2, x3, some (.d (.list (gs.map fun g => sD g.1))), x5, x6, x7, x8, x9, x10, x11, x12] = .ret (.nx ρ') ∧ ∃ y5 y7 y8 y9, ρ' = [some (.own .i (meI a "Log" [])), some (.d (.tuple (gs.map gD))), x2, x3, some (.d (.list (gs.map fun g => sD g.1))), y5, x6, y7, y8, y9, x10, x11, x12]) ∨ ∃ e, (gs).findSome? (fun g => (ixs 0 g.2).findSome? fun p => if R p.2 = true then none else some (eStep (sD g.1) p.1)) = some e ∧ gFor (fW (fVar 1)) (.tup 2 (.cons (.nm 5) (.cons (.nm 7) .nil))) (gFor (fun ρ => Fr.bind ((fVar 7) ρ) sEnumA) (.tup 2 (.cons (.nm 8) (.cons (.nm 9) .nil))) (gIf (fNot (fT (fCall 1 S_is_step (fCons (fVar 9) fNil)))) (gRaise "InvalidStep" "InvalidStep" ["process", "index"] (fCons (fVar 5) (fCons (fVar 8) fNil))) gPass)) [some (.own .i (meI a "Log" [])), some (.d (.tuple (gs.map gD))), x2, x3, some (.d (.list (gs.map fun g => sD g.1))), x5, x6, x7, x8, x9, x10, x11, x12] = .ret (.ex ρ' e) := by
  have hw : gFor (fW (fVar 1)) (.tup 2 (.cons (.nm 5) (.cons (.nm 7) .nil))) (gFor (fun ρ => Fr.bind ((fVar 7) ρ) sEnumA) (.tup 2 (.cons (.nm 8) (.cons (.nm 9) .nil))) (gIf (fNot (fT (fCall 1 S_is_step (fCons (fVar 9) fNil)))) (gRaise "InvalidStep" "InvalidStep" ["process", "index"] (fCons (fVar 5) (fCons (fVar 8) fNil))) gPass)) [some (.own .i (meI a "Log" [])), some (.d (.tuple (gs.map gD))), x2, x3, some (.d (.list (gs.map fun g => sD g.1))), x5, x6, x7, x8, x9, x10, x11, x12] = forO (.tup 2 (.cons (.nm 5) (.cons (.nm 7) .nil))) (gFor (fun ρ => Fr.bind ((fVar 7) ρ) sEnumA) (.tup 2 (.cons (.nm 8) (.cons (.nm 9) .nil))) (gIf (fNot (fT (fCall 1 S_is_step (fCons (fVar 9) fNil)))) (gRaise "InvalidStep" "InvalidStep" ["process", "index"] (fCons (fVar 5) (fCons (fVar 8) fNil))) gPass)) ((gs).map (gD)) [some (.own .i (meI a "Log" [])), some (.d (.tuple (gs.map gD))), x2, x3, some (.d (.list (gs.map fun g => sD g.1))), x5, x6, x7, x8, x9, x10, x11, x12] := gFor_ret (by rfl)
  rw [hw]
  exact forO_seek (t := .tup 2 (.cons (.nm 5) (.cons (.nm 7) .nil))) (gb := (gFor (fun ρ => Fr.bind ((fVar 7) ρ) sEnumA) (.tup 2 (.cons (.nm 8) (.cons (.nm 9) .nil))) (gIf (fNot (fT (fCall 1 S_is_step (fCons (fVar 9) fNil)))) (gRaise "InvalidStep" "InvalidStep" ["process", "index"] (fCons (fVar 5) (fCons (fVar 8) fNil))) gPass))) (f := gD) (I := fun ρ => ∃ y5 y7 y8 y9, ρ = [some (.own .i (meI a "Log" [])), some (.d (.tuple (gs.map gD))), x2, x3, some (.d (.list (gs.map fun g => sD g.1))), y5, x6, y7, y8, y9, x10, x11, x12]) (E := fun g => (ixs 0 g.2).findSome? fun p => if R p.2 = true then none else some (eStep (sD g.1) p.1)) (l := gs) (ρ := [some (.own .i (meI a "Log" [])), some (.d (.tuple (gs.map gD))), x2, x3, some (.d (.list (gs.map fun g => sD g.1))), x5, x6, x7, x8, x9, x10, x11, x12])
    (fun p hp ρ ⟨y5, y7, y8, y9, e⟩ => by
      subst e
      obtain ⟨ρ2, hi⟩ := n6i (gs := gs) (a := a) (x2 := x2) (x3 := x3) (x6 := x6) (x8 := y8) (x9 := y9) (x10 := x10) (x11 := x11) (x12 := x12) (g := p) (hR p hp)
      refine ⟨_, ρ2, rfl, ?_⟩
      rcases hi with ⟨h1, h2, z8, z9, e⟩ | ⟨e, h1, h2⟩
      · exact .inl ⟨h1, h2, _, _, _, _, e⟩
      · exact .inr ⟨e, h1, h2⟩) ⟨_, _, _, _, rfl⟩
end
end TM
namespace TM
open PySem PySem.Spec PyProof.Rows L2
theorem PureL.of {g : Rn → Fr Out} {ρ : Rn} (h : WG g ρ Yes) : PureL g ρ := ⟨h.ok⟩
end TM
namespace TM
open PySem PySem.Spec PyProof.Rows L2
structure Cm {α : Type} [DecidableEq α] (f : α → PyData) (p : α → Prop) : Prop where
  la : ∀ a, p a → La 20 (f a)
  eqv : ∀ a b, PyData.eqv (f a) (f b) = decide (a = b)
section
variable {α : Type} [DecidableEq α] {f : α → PyData} {p : α → Prop}
theorem Cm.any (h : Cm f p) (a : α) : ∀ l : List α, ((l.map f).any fun z => PyData.eqv z (f a)) = decide (a ∈ l)
  | [] => by simp
  | b :: l => by
    rw [List.map_cons, List.any_cons, h.any a l, h.eqv, ← Bool.decide_or]
    exact decide_eq_decide.mpr (by rw [List.mem_cons]; exact ⟨fun h => h.imp Eq.symm id, fun h => h.imp Eq.symm id⟩)
theorem Cm.inOk (h : Cm f p) {a : α} {l : List α} (ha : p a) (hl : ∀ b ∈ l, p b) : inOk (f a) (l.map f) = true := by
  have h1 : LaL 20 (l.map f) := .map fun b hb => h.la b (hl b hb)
  have h2 := h.la a ha
  unfold TM.inOk
  rw [h1.p, h2.p, h2.sh (by decide), (La.lst h1).sh (by decide)]
  simp
theorem inD_l {x : PyData} {ds : List PyData} (h : inOk x ds = true) : sIn (.d x) (.d (.list ds)) = .ret (.d (.bool (ds.any fun z => PyData.eqv z x))) := by
  have e : inD (.d x) (.d (.list ds)) = (if inOk x ds = true then .ret (ds.any fun z => PyData.eqv z x) else .bad) := by
    unfold inD
    split
    · rename_i h1 h2; cases h2
    · rename_i h1 h2; cases h2
    · rfl
  unfold sIn
  rw [e, if_pos h]
  rfl
theorem inD_t {x : PyData} {ds : List PyData} (h : inOk x ds = true) : sIn (.d x) (.d (.tuple ds)) = .ret (.d (.bool (ds.any fun z => PyData.eqv z x))) := by
  have e : inD (.d x) (.d (.tuple ds)) = (if inOk x ds = true then .ret (ds.any fun z => PyData.eqv z x) else .bad) := by
    unfold inD
    split
    · rename_i h1 h2; cases h2
    · rename_i h1 h2; cases h2; rfl
    · rename_i h1 h2; exact (h1 ds rfl).elim
  unfold sIn
  rw [e, if_pos h]
  rfl
theorem Cm.inl (h : Cm f p) {a : α} {l : List α} (ha : p a) (hl : ∀ b ∈ l, p b) : sIn (.d (f a)) (.d (.list (l.map f))) = .ret (.d (.bool (decide (a ∈ l)))) := by rw [inD_l (h.inOk ha hl), h.any]
theorem Cm.int (h : Cm f p) {a : α} {l : List α} (ha : p a) (hl : ∀ b ∈ l, p b) : sIn (.d (f a)) (.d (.tuple (l.map f))) = .ret (.d (.bool (decide (a ∈ l)))) := by rw [inD_t (h.inOk ha hl), h.any]
end
end TM
namespace TM
open PySem PySem.Spec PyProof.Rows L2
theorem ordL_len {c : Ct} : ∀ {l : List (Nat × Nat)} {mk : List Nat}, OrdL c mk l → l.length ≤ remL mk c
  | [], _, _ => Nat.zero_le _
  | z :: l, mk, ⟨⟨x, h1, h2, _⟩, t⟩ => by
    obtain ⟨r, a, b⟩ := stp_some h2
    have := remL_set h1 a (List.getElem?_eq_some_iff.mp b).1
    have h := ordL_len t
    rw [List.length_cons]
    omega
section
variable {rs : List Rw} {D : PyData} {P : Nat → Nat → List Nat} {od : List (Nat × Nat)}
theorem LogOk.len (L : LogOk rs D P od) (G : Good rs) : od.length ≤ 120 := by
  have h1 := ordL_len L.ord
  have h2 := remL_le (zerosL (ctOf rs)) (ctOf rs) 20 fun r hr => by
    obtain ⟨q, hq, rfl⟩ := List.mem_map.mp hr
    exact G.st q hq
  have h3 : (ctOf rs).length ≤ 6 := by
    unfold ctOf
    rw [List.length_map]
    exact G.n
  omega
end
end TM
namespace TM
open PySem PySem.Spec PyProof.Rows L2
structure GJ (W : List (List Nat)) (c : Ct) (os : List (List Nat)) (f t : Nat) : Prop where
  ft : f ≤ W.length
  dp : ∃ S R, (∀ w ∈ S, w ∈ W.take f) ∧ S.Nodup ∧ (deedsOf c).Perm (S.map (fun w => (true, w)) ++ R.map (fun w => (false, w))) ∧ (os ++ R).Perm S
  ac : ∃ T : Nat → Nat → Nat, (∀ s i x, stp c s (i + 1) = some x → T s i < T s (i + 1)) ∧ (∀ m s i s' i', Rcv c m s i → Snd c m s' i' → T s' i' < T s i) ∧ ∀ s i x, stp c s i = some x → T s i < t
  ln : ∀ r ∈ c, r.length ≤ 20
  gs : ∀ r ∈ c, ∀ x ∈ r, GS x.m x.n x.d
section
variable {W : List (List Nat)} {c : Ct} {os : List (List Nat)} {f t : Nat}
theorem GJ.start {c : Ct} (h : ∀ r ∈ c, r = []) : GJ W c [] 0 0 := by
  have e : deedsOf c = [] := by
    unfold deedsOf
    rw [List.flatMap_eq_nil_iff]
    intro r hr
    rw [h r hr]
    rfl
  have no : ∀ s i x, stp c s i = some x → False := fun s i x q => by
    obtain ⟨r, e1, e2⟩ := stp_some q
    rw [h r (List.mem_of_getElem? e1)] at e2
    cases e2
  refine ⟨Nat.zero_le _, ⟨[], [], fun w hw => absurd hw List.not_mem_nil, List.nodup_nil, by rw [e]; exact List.Perm.refl _, List.Perm.refl _⟩, ⟨fun _ _ => 0, fun s i x q => (no _ _ _ q).elim, fun m s i s' i' ⟨x, q, _⟩ => (no _ _ _ q).elim, fun s i x q => (no _ _ _ q).elim⟩, fun r hr => by rw [h r hr]; exact Nat.zero_le _, fun r hr x hx => ?_⟩
  rw [h r hr] at hx
  cases hx
end
end TM
namespace TM
open PySem PySem.Spec PyProof.Rows L2
theorem wg_nx {g k : Rn → Fr Out} {ρ ρ' : Rn} {P : Out → Prop} (e : g ρ = .ret (.nx ρ')) (h : WG k ρ' P) : WG (gSeq g k) ρ P := ⟨by rw [gSeq_nx e]; exact h.ok⟩
end TM
namespace TM
open PySem PySem.Spec PyProof.Rows L2
def flds01 (a b c : PyData) : List PyData := [.tuple [a], .tuple [a], .tuple [a], .tuple [a, b], .tuple [a], .tuple [a], .tuple [a], .tuple [a, b], .tuple [a], .tuple [a], .tuple [a], .tuple [a, b, c], .tuple [], .tuple [], .tuple [a], .tuple [], .tuple [a], .tuple [a], .tuple [a], .tuple [a], .tuple [a], .tuple [a], .tuple [a], .tuple [a], .tuple [a], .tuple [a], .tuple []]
def codes01 : List PyData := [.str "InvalidName", .str "InvalidRow", .str "DuplicateName", .str "InvalidStep", .str "DuplicateMessage", .str "Unsent", .str "Ring", .str "TooMany", .str "InvalidPoint", .str "InvalidMoment", .str "InvalidClause", .str "Parted", .str "UnlikeLogs", .str "EmptyLot", .str "InvalidNumber", .str "InvalidWeights", .str "Uneven", .str "InvalidTests", .str "InvalidText", .str "InvalidCommand", .str "Full", .str "InvalidLimit", .str "InvalidPage", .str "UnknownProcess", .str "UnknownStep", .str "UnknownName", .str "NothingLeft"]
theorem codes_01 : S__law_codes [] = .ret (.d (.list codes01)) := by kernel_rfl
def r01 (x0 : Option Sl) (a b c : PyData) (x6 x7 x8 x9 x10 : Option Sl) : Rn := [x0, some .bag, some (.d a), some (.d b), some (.d c), some (.d (.list codes01)), x6, x7, x8, x9, x10]
def b01_0 : Rn → Fr Out := (gSet 8 (fIf (fB (f2 sIn (f2 sIx (fVar 5) (fVar 6)) (fTup (fCons (fC (.str "UnlikeLogs")) (fCons (fC (.str "EmptyLot")) (fCons (fC (.str "InvalidWeights")) (fCons (fC (.str "NothingLeft")) fNil))))))) (fTup fNil) (fTup (fCons (fVar 2) fNil))))
def b01_1 : Rn → Fr Out := (gSet 8 (fIf (fB (f2 sIn (f2 sIx (fVar 5) (fVar 6)) (fTup (fCons (fC (.str "InvalidStep")) (fCons (fC (.str "TooMany")) fNil))))) (fTup (fCons (fVar 2) (fCons (fVar 3) fNil))) (fIf (fB (f2 sEq (f2 sIx (fVar 5) (fVar 6)) (fC (.str "Parted")))) (fTup (fCons (fVar 2) (fCons (fVar 3) (fCons (fVar 4) fNil)))) (fVar 8))))
def b01_2 : Rn → Fr Out := (gIf (fNot (fT (fCall 2 (S__law_same 5) (fCons (fLst (fCons (f1 (sEFld (ETL "code") "code") (fVar 7)) (fCons (fCall 1 S_z01_law_field (fCons (fVar 7) fNil)) fNil))) (fCons (fLst (fCons (f2 sIx (fVar 5) (fVar 6)) (fCons (fVar 8) fNil))) fNil))))) (gRet (fC (.bool false))) gPass)
def b01_3 : Rn → Fr Out := (gIf (fB (f2 sNe (fCall 1 S__law_kinds_of (fCons (fVar 7) fNil)) (fLc (fun ρ => Fr.bind ((fC (.int 27)) ρ) sR1) (.nm 10) [10] fYes (f2 sEq (fVar 10) (fVar 6))))) (gRet (fC (.bool false))) gPass)
def b01_4 : Rn → Fr Out := (gSet 9 (fLst (fCons (f1 (sIsE ALLE (isAL "LogError")) (fVar 7)) (fCons (f1 (sIsE ALLE (isAL "Missing")) (fVar 7)) (fCons (f1 (sIsE ALLE (isAL "ValueError")) (fVar 7)) (fCons (f1 (sIsE ALLE (isAL "LookupError")) (fVar 7)) fNil))))))
def b01_5 : Rn → Fr Out := (gIf (fOr (fB (f2 sNe (fVar 9) (fLst (fCons (f2 sLt (fVar 6) (fC (.int 23))) (fCons (fChain sLe sLt (fC (.int 23)) (fVar 6) (fC (.int 26))) (fCons (f2 sLt (fVar 6) (fC (.int 23))) (fCons (f2 sGe (fVar 6) (fC (.int 23))) fNil))))))) (fB (f2 sNe (f1 (sIsE ALLE (isAL "IndexError")) (fVar 7)) (f2 sEq (fVar 6) (fC (.int 26)))))) (gRet (fC (.bool false))) gPass)
def b01 : Rn → Fr Out := gSeq b01_0 (gSeq b01_1 (gSeq b01_2 (gSeq b01_3 (gSeq b01_4 b01_5))))
def End01 (x0 : Option Sl) (a b c : PyData) (o : Out) : Prop := ∃ x6 x7 x8 x9 x10, o = .nx (r01 x0 a b c x6 x7 x8 x9 x10)
section
variable {x0 x8 x9 x10 : Option Sl} {a b c : PyData}
theorem t01_0 (ha : sameOk 3 a = true) (hb : sameOk 3 b = true) (hc : sameOk 3 c = true) : WG b01 (r01 x0 a b c (some (.d (.int 0))) (some (.d (errD "InvalidName" "InvalidName" ["value"] [a]))) x8 x9 x10) (End01 x0 a b c) := by
  unfold b01
  refine wg_nx (ρ' := r01 x0 a b c (some (.d (.int 0))) (some (.d (errD "InvalidName" "InvalidName" ["value"] [a]))) (some (.d (.tuple [a]))) x9 x10) (by kernel_rfl) ?_
  refine wg_nx (ρ' := r01 x0 a b c (some (.d (.int 0))) (some (.d (errD "InvalidName" "InvalidName" ["value"] [a]))) (some (.d (.tuple [a]))) x9 x10) (by kernel_rfl) ?_
  refine wgt_skip (wt_nsame (wv_ret (x := .list [.str "InvalidName", .tuple [a]]) (by kernel_rfl) (wv_ret (x := .list [.str "InvalidName", .tuple [a]]) (by kernel_rfl) ⟨rfl, ?_⟩))) ?_
  · show (decide (2 ≤ 1000) && (true && ((decide (1 ≤ 1000) && (sameOk 3 a && true)) && true))) = true
    rw [ha]
    rfl
  refine wg_nx (ρ' := r01 x0 a b c (some (.d (.int 0))) (some (.d (errD "InvalidName" "InvalidName" ["value"] [a]))) (some (.d (.tuple [a]))) x9 x10) (by kernel_rfl) ?_
  refine wg_nx (ρ' := r01 x0 a b c (some (.d (.int 0))) (some (.d (errD "InvalidName" "InvalidName" ["value"] [a]))) (some (.d (.tuple [a]))) (some (.d (.list [.bool true, .bool false, .bool true, .bool false]))) x10) (by kernel_rfl) ?_
  exact ⟨by rw [show b01_5 (r01 x0 a b c (some (.d (.int 0))) (some (.d (errD "InvalidName" "InvalidName" ["value"] [a]))) (some (.d (.tuple [a]))) (some (.d (.list [.bool true, .bool false, .bool true, .bool false]))) x10) = .ret (.nx (r01 x0 a b c (some (.d (.int 0))) (some (.d (errD "InvalidName" "InvalidName" ["value"] [a]))) (some (.d (.tuple [a]))) (some (.d (.list [.bool true, .bool false, .bool true, .bool false]))) x10)) by kernel_rfl]; exact ⟨_, _, _, _, _, rfl⟩⟩
theorem t01_1 (ha : sameOk 3 a = true) (hb : sameOk 3 b = true) (hc : sameOk 3 c = true) : WG b01 (r01 x0 a b c (some (.d (.int 1))) (some (.d (errD "InvalidRow" "InvalidRow" ["at"] [a]))) x8 x9 x10) (End01 x0 a b c) := by
  unfold b01
  refine wg_nx (ρ' := r01 x0 a b c (some (.d (.int 1))) (some (.d (errD "InvalidRow" "InvalidRow" ["at"] [a]))) (some (.d (.tuple [a]))) x9 x10) (by kernel_rfl) ?_
  refine wg_nx (ρ' := r01 x0 a b c (some (.d (.int 1))) (some (.d (errD "InvalidRow" "InvalidRow" ["at"] [a]))) (some (.d (.tuple [a]))) x9 x10) (by kernel_rfl) ?_
  refine wgt_skip (wt_nsame (wv_ret (x := .list [.str "InvalidRow", .tuple [a]]) (by kernel_rfl) (wv_ret (x := .list [.str "InvalidRow", .tuple [a]]) (by kernel_rfl) ⟨rfl, ?_⟩))) ?_
  · show (decide (2 ≤ 1000) && (true && ((decide (1 ≤ 1000) && (sameOk 3 a && true)) && true))) = true
    rw [ha]
    rfl
  refine wg_nx (ρ' := r01 x0 a b c (some (.d (.int 1))) (some (.d (errD "InvalidRow" "InvalidRow" ["at"] [a]))) (some (.d (.tuple [a]))) x9 x10) (by kernel_rfl) ?_
  refine wg_nx (ρ' := r01 x0 a b c (some (.d (.int 1))) (some (.d (errD "InvalidRow" "InvalidRow" ["at"] [a]))) (some (.d (.tuple [a]))) (some (.d (.list [.bool true, .bool false, .bool true, .bool false]))) x10) (by kernel_rfl) ?_
  exact ⟨by rw [show b01_5 (r01 x0 a b c (some (.d (.int 1))) (some (.d (errD "InvalidRow" "InvalidRow" ["at"] [a]))) (some (.d (.tuple [a]))) (some (.d (.list [.bool true, .bool false, .bool true, .bool false]))) x10) = .ret (.nx (r01 x0 a b c (some (.d (.int 1))) (some (.d (errD "InvalidRow" "InvalidRow" ["at"] [a]))) (some (.d (.tuple [a]))) (some (.d (.list [.bool true, .bool false, .bool true, .bool false]))) x10)) by kernel_rfl]; exact ⟨_, _, _, _, _, rfl⟩⟩
theorem t01_2 (ha : sameOk 3 a = true) (hb : sameOk 3 b = true) (hc : sameOk 3 c = true) : WG b01 (r01 x0 a b c (some (.d (.int 2))) (some (.d (errD "DuplicateName" "DuplicateName" ["name"] [a]))) x8 x9 x10) (End01 x0 a b c) := by
  unfold b01
  refine wg_nx (ρ' := r01 x0 a b c (some (.d (.int 2))) (some (.d (errD "DuplicateName" "DuplicateName" ["name"] [a]))) (some (.d (.tuple [a]))) x9 x10) (by kernel_rfl) ?_
  refine wg_nx (ρ' := r01 x0 a b c (some (.d (.int 2))) (some (.d (errD "DuplicateName" "DuplicateName" ["name"] [a]))) (some (.d (.tuple [a]))) x9 x10) (by kernel_rfl) ?_
  refine wgt_skip (wt_nsame (wv_ret (x := .list [.str "DuplicateName", .tuple [a]]) (by kernel_rfl) (wv_ret (x := .list [.str "DuplicateName", .tuple [a]]) (by kernel_rfl) ⟨rfl, ?_⟩))) ?_
  · show (decide (2 ≤ 1000) && (true && ((decide (1 ≤ 1000) && (sameOk 3 a && true)) && true))) = true
    rw [ha]
    rfl
  refine wg_nx (ρ' := r01 x0 a b c (some (.d (.int 2))) (some (.d (errD "DuplicateName" "DuplicateName" ["name"] [a]))) (some (.d (.tuple [a]))) x9 x10) (by kernel_rfl) ?_
  refine wg_nx (ρ' := r01 x0 a b c (some (.d (.int 2))) (some (.d (errD "DuplicateName" "DuplicateName" ["name"] [a]))) (some (.d (.tuple [a]))) (some (.d (.list [.bool true, .bool false, .bool true, .bool false]))) x10) (by kernel_rfl) ?_
  exact ⟨by rw [show b01_5 (r01 x0 a b c (some (.d (.int 2))) (some (.d (errD "DuplicateName" "DuplicateName" ["name"] [a]))) (some (.d (.tuple [a]))) (some (.d (.list [.bool true, .bool false, .bool true, .bool false]))) x10) = .ret (.nx (r01 x0 a b c (some (.d (.int 2))) (some (.d (errD "DuplicateName" "DuplicateName" ["name"] [a]))) (some (.d (.tuple [a]))) (some (.d (.list [.bool true, .bool false, .bool true, .bool false]))) x10)) by kernel_rfl]; exact ⟨_, _, _, _, _, rfl⟩⟩
theorem t01_3 (ha : sameOk 3 a = true) (hb : sameOk 3 b = true) (hc : sameOk 3 c = true) : WG b01 (r01 x0 a b c (some (.d (.int 3))) (some (.d (errD "InvalidStep" "InvalidStep" ["process", "index"] [a, b]))) x8 x9 x10) (End01 x0 a b c) := by
  unfold b01
  refine wg_nx (ρ' := r01 x0 a b c (some (.d (.int 3))) (some (.d (errD "InvalidStep" "InvalidStep" ["process", "index"] [a, b]))) (some (.d (.tuple [a]))) x9 x10) (by kernel_rfl) ?_
  refine wg_nx (ρ' := r01 x0 a b c (some (.d (.int 3))) (some (.d (errD "InvalidStep" "InvalidStep" ["process", "index"] [a, b]))) (some (.d (.tuple [a, b]))) x9 x10) (by kernel_rfl) ?_
  refine wgt_skip (wt_nsame (wv_ret (x := .list [.str "InvalidStep", .tuple [a, b]]) (by kernel_rfl) (wv_ret (x := .list [.str "InvalidStep", .tuple [a, b]]) (by kernel_rfl) ⟨rfl, ?_⟩))) ?_
  · show (decide (2 ≤ 1000) && (true && ((decide (2 ≤ 1000) && (sameOk 3 a && (sameOk 3 b && true))) && true))) = true
    rw [ha, hb]
    rfl
  refine wg_nx (ρ' := r01 x0 a b c (some (.d (.int 3))) (some (.d (errD "InvalidStep" "InvalidStep" ["process", "index"] [a, b]))) (some (.d (.tuple [a, b]))) x9 x10) (by kernel_rfl) ?_
  refine wg_nx (ρ' := r01 x0 a b c (some (.d (.int 3))) (some (.d (errD "InvalidStep" "InvalidStep" ["process", "index"] [a, b]))) (some (.d (.tuple [a, b]))) (some (.d (.list [.bool true, .bool false, .bool true, .bool false]))) x10) (by kernel_rfl) ?_
  exact ⟨by rw [show b01_5 (r01 x0 a b c (some (.d (.int 3))) (some (.d (errD "InvalidStep" "InvalidStep" ["process", "index"] [a, b]))) (some (.d (.tuple [a, b]))) (some (.d (.list [.bool true, .bool false, .bool true, .bool false]))) x10) = .ret (.nx (r01 x0 a b c (some (.d (.int 3))) (some (.d (errD "InvalidStep" "InvalidStep" ["process", "index"] [a, b]))) (some (.d (.tuple [a, b]))) (some (.d (.list [.bool true, .bool false, .bool true, .bool false]))) x10)) by kernel_rfl]; exact ⟨_, _, _, _, _, rfl⟩⟩
theorem t01_4 (ha : sameOk 3 a = true) (hb : sameOk 3 b = true) (hc : sameOk 3 c = true) : WG b01 (r01 x0 a b c (some (.d (.int 4))) (some (.d (errD "DuplicateMessage" "DuplicateMessage" ["message"] [a]))) x8 x9 x10) (End01 x0 a b c) := by
  unfold b01
  refine wg_nx (ρ' := r01 x0 a b c (some (.d (.int 4))) (some (.d (errD "DuplicateMessage" "DuplicateMessage" ["message"] [a]))) (some (.d (.tuple [a]))) x9 x10) (by kernel_rfl) ?_
  refine wg_nx (ρ' := r01 x0 a b c (some (.d (.int 4))) (some (.d (errD "DuplicateMessage" "DuplicateMessage" ["message"] [a]))) (some (.d (.tuple [a]))) x9 x10) (by kernel_rfl) ?_
  refine wgt_skip (wt_nsame (wv_ret (x := .list [.str "DuplicateMessage", .tuple [a]]) (by kernel_rfl) (wv_ret (x := .list [.str "DuplicateMessage", .tuple [a]]) (by kernel_rfl) ⟨rfl, ?_⟩))) ?_
  · show (decide (2 ≤ 1000) && (true && ((decide (1 ≤ 1000) && (sameOk 3 a && true)) && true))) = true
    rw [ha]
    rfl
  refine wg_nx (ρ' := r01 x0 a b c (some (.d (.int 4))) (some (.d (errD "DuplicateMessage" "DuplicateMessage" ["message"] [a]))) (some (.d (.tuple [a]))) x9 x10) (by kernel_rfl) ?_
  refine wg_nx (ρ' := r01 x0 a b c (some (.d (.int 4))) (some (.d (errD "DuplicateMessage" "DuplicateMessage" ["message"] [a]))) (some (.d (.tuple [a]))) (some (.d (.list [.bool true, .bool false, .bool true, .bool false]))) x10) (by kernel_rfl) ?_
  exact ⟨by rw [show b01_5 (r01 x0 a b c (some (.d (.int 4))) (some (.d (errD "DuplicateMessage" "DuplicateMessage" ["message"] [a]))) (some (.d (.tuple [a]))) (some (.d (.list [.bool true, .bool false, .bool true, .bool false]))) x10) = .ret (.nx (r01 x0 a b c (some (.d (.int 4))) (some (.d (errD "DuplicateMessage" "DuplicateMessage" ["message"] [a]))) (some (.d (.tuple [a]))) (some (.d (.list [.bool true, .bool false, .bool true, .bool false]))) x10)) by kernel_rfl]; exact ⟨_, _, _, _, _, rfl⟩⟩
theorem t01_5 (ha : sameOk 3 a = true) (hb : sameOk 3 b = true) (hc : sameOk 3 c = true) : WG b01 (r01 x0 a b c (some (.d (.int 5))) (some (.d (errD "Unsent" "Unsent" ["message"] [a]))) x8 x9 x10) (End01 x0 a b c) := by
  unfold b01
  refine wg_nx (ρ' := r01 x0 a b c (some (.d (.int 5))) (some (.d (errD "Unsent" "Unsent" ["message"] [a]))) (some (.d (.tuple [a]))) x9 x10) (by kernel_rfl) ?_
  refine wg_nx (ρ' := r01 x0 a b c (some (.d (.int 5))) (some (.d (errD "Unsent" "Unsent" ["message"] [a]))) (some (.d (.tuple [a]))) x9 x10) (by kernel_rfl) ?_
  refine wgt_skip (wt_nsame (wv_ret (x := .list [.str "Unsent", .tuple [a]]) (by kernel_rfl) (wv_ret (x := .list [.str "Unsent", .tuple [a]]) (by kernel_rfl) ⟨rfl, ?_⟩))) ?_
  · show (decide (2 ≤ 1000) && (true && ((decide (1 ≤ 1000) && (sameOk 3 a && true)) && true))) = true
    rw [ha]
    rfl
  refine wg_nx (ρ' := r01 x0 a b c (some (.d (.int 5))) (some (.d (errD "Unsent" "Unsent" ["message"] [a]))) (some (.d (.tuple [a]))) x9 x10) (by kernel_rfl) ?_
  refine wg_nx (ρ' := r01 x0 a b c (some (.d (.int 5))) (some (.d (errD "Unsent" "Unsent" ["message"] [a]))) (some (.d (.tuple [a]))) (some (.d (.list [.bool true, .bool false, .bool true, .bool false]))) x10) (by kernel_rfl) ?_
  exact ⟨by rw [show b01_5 (r01 x0 a b c (some (.d (.int 5))) (some (.d (errD "Unsent" "Unsent" ["message"] [a]))) (some (.d (.tuple [a]))) (some (.d (.list [.bool true, .bool false, .bool true, .bool false]))) x10) = .ret (.nx (r01 x0 a b c (some (.d (.int 5))) (some (.d (errD "Unsent" "Unsent" ["message"] [a]))) (some (.d (.tuple [a]))) (some (.d (.list [.bool true, .bool false, .bool true, .bool false]))) x10)) by kernel_rfl]; exact ⟨_, _, _, _, _, rfl⟩⟩
theorem t01_6 (ha : sameOk 3 a = true) (hb : sameOk 3 b = true) (hc : sameOk 3 c = true) : WG b01 (r01 x0 a b c (some (.d (.int 6))) (some (.d (errD "Ring" "Ring" ["process"] [a]))) x8 x9 x10) (End01 x0 a b c) := by
  unfold b01
  refine wg_nx (ρ' := r01 x0 a b c (some (.d (.int 6))) (some (.d (errD "Ring" "Ring" ["process"] [a]))) (some (.d (.tuple [a]))) x9 x10) (by kernel_rfl) ?_
  refine wg_nx (ρ' := r01 x0 a b c (some (.d (.int 6))) (some (.d (errD "Ring" "Ring" ["process"] [a]))) (some (.d (.tuple [a]))) x9 x10) (by kernel_rfl) ?_
  refine wgt_skip (wt_nsame (wv_ret (x := .list [.str "Ring", .tuple [a]]) (by kernel_rfl) (wv_ret (x := .list [.str "Ring", .tuple [a]]) (by kernel_rfl) ⟨rfl, ?_⟩))) ?_
  · show (decide (2 ≤ 1000) && (true && ((decide (1 ≤ 1000) && (sameOk 3 a && true)) && true))) = true
    rw [ha]
    rfl
  refine wg_nx (ρ' := r01 x0 a b c (some (.d (.int 6))) (some (.d (errD "Ring" "Ring" ["process"] [a]))) (some (.d (.tuple [a]))) x9 x10) (by kernel_rfl) ?_
  refine wg_nx (ρ' := r01 x0 a b c (some (.d (.int 6))) (some (.d (errD "Ring" "Ring" ["process"] [a]))) (some (.d (.tuple [a]))) (some (.d (.list [.bool true, .bool false, .bool true, .bool false]))) x10) (by kernel_rfl) ?_
  exact ⟨by rw [show b01_5 (r01 x0 a b c (some (.d (.int 6))) (some (.d (errD "Ring" "Ring" ["process"] [a]))) (some (.d (.tuple [a]))) (some (.d (.list [.bool true, .bool false, .bool true, .bool false]))) x10) = .ret (.nx (r01 x0 a b c (some (.d (.int 6))) (some (.d (errD "Ring" "Ring" ["process"] [a]))) (some (.d (.tuple [a]))) (some (.d (.list [.bool true, .bool false, .bool true, .bool false]))) x10)) by kernel_rfl]; exact ⟨_, _, _, _, _, rfl⟩⟩
theorem t01_7 (ha : sameOk 3 a = true) (hb : sameOk 3 b = true) (hc : sameOk 3 c = true) : WG b01 (r01 x0 a b c (some (.d (.int 7))) (some (.d (errD "TooMany" "TooMany" ["subject", "most"] [a, b]))) x8 x9 x10) (End01 x0 a b c) := by
  unfold b01
  refine wg_nx (ρ' := r01 x0 a b c (some (.d (.int 7))) (some (.d (errD "TooMany" "TooMany" ["subject", "most"] [a, b]))) (some (.d (.tuple [a]))) x9 x10) (by kernel_rfl) ?_
  refine wg_nx (ρ' := r01 x0 a b c (some (.d (.int 7))) (some (.d (errD "TooMany" "TooMany" ["subject", "most"] [a, b]))) (some (.d (.tuple [a, b]))) x9 x10) (by kernel_rfl) ?_
  refine wgt_skip (wt_nsame (wv_ret (x := .list [.str "TooMany", .tuple [a, b]]) (by kernel_rfl) (wv_ret (x := .list [.str "TooMany", .tuple [a, b]]) (by kernel_rfl) ⟨rfl, ?_⟩))) ?_
  · show (decide (2 ≤ 1000) && (true && ((decide (2 ≤ 1000) && (sameOk 3 a && (sameOk 3 b && true))) && true))) = true
    rw [ha, hb]
    rfl
  refine wg_nx (ρ' := r01 x0 a b c (some (.d (.int 7))) (some (.d (errD "TooMany" "TooMany" ["subject", "most"] [a, b]))) (some (.d (.tuple [a, b]))) x9 x10) (by kernel_rfl) ?_
  refine wg_nx (ρ' := r01 x0 a b c (some (.d (.int 7))) (some (.d (errD "TooMany" "TooMany" ["subject", "most"] [a, b]))) (some (.d (.tuple [a, b]))) (some (.d (.list [.bool true, .bool false, .bool true, .bool false]))) x10) (by kernel_rfl) ?_
  exact ⟨by rw [show b01_5 (r01 x0 a b c (some (.d (.int 7))) (some (.d (errD "TooMany" "TooMany" ["subject", "most"] [a, b]))) (some (.d (.tuple [a, b]))) (some (.d (.list [.bool true, .bool false, .bool true, .bool false]))) x10) = .ret (.nx (r01 x0 a b c (some (.d (.int 7))) (some (.d (errD "TooMany" "TooMany" ["subject", "most"] [a, b]))) (some (.d (.tuple [a, b]))) (some (.d (.list [.bool true, .bool false, .bool true, .bool false]))) x10)) by kernel_rfl]; exact ⟨_, _, _, _, _, rfl⟩⟩
theorem t01_8 (ha : sameOk 3 a = true) (hb : sameOk 3 b = true) (hc : sameOk 3 c = true) : WG b01 (r01 x0 a b c (some (.d (.int 8))) (some (.d (errD "InvalidPoint" "InvalidPoint" ["value"] [a]))) x8 x9 x10) (End01 x0 a b c) := by
  unfold b01
  refine wg_nx (ρ' := r01 x0 a b c (some (.d (.int 8))) (some (.d (errD "InvalidPoint" "InvalidPoint" ["value"] [a]))) (some (.d (.tuple [a]))) x9 x10) (by kernel_rfl) ?_
  refine wg_nx (ρ' := r01 x0 a b c (some (.d (.int 8))) (some (.d (errD "InvalidPoint" "InvalidPoint" ["value"] [a]))) (some (.d (.tuple [a]))) x9 x10) (by kernel_rfl) ?_
  refine wgt_skip (wt_nsame (wv_ret (x := .list [.str "InvalidPoint", .tuple [a]]) (by kernel_rfl) (wv_ret (x := .list [.str "InvalidPoint", .tuple [a]]) (by kernel_rfl) ⟨rfl, ?_⟩))) ?_
  · show (decide (2 ≤ 1000) && (true && ((decide (1 ≤ 1000) && (sameOk 3 a && true)) && true))) = true
    rw [ha]
    rfl
  refine wg_nx (ρ' := r01 x0 a b c (some (.d (.int 8))) (some (.d (errD "InvalidPoint" "InvalidPoint" ["value"] [a]))) (some (.d (.tuple [a]))) x9 x10) (by kernel_rfl) ?_
  refine wg_nx (ρ' := r01 x0 a b c (some (.d (.int 8))) (some (.d (errD "InvalidPoint" "InvalidPoint" ["value"] [a]))) (some (.d (.tuple [a]))) (some (.d (.list [.bool true, .bool false, .bool true, .bool false]))) x10) (by kernel_rfl) ?_
  exact ⟨by rw [show b01_5 (r01 x0 a b c (some (.d (.int 8))) (some (.d (errD "InvalidPoint" "InvalidPoint" ["value"] [a]))) (some (.d (.tuple [a]))) (some (.d (.list [.bool true, .bool false, .bool true, .bool false]))) x10) = .ret (.nx (r01 x0 a b c (some (.d (.int 8))) (some (.d (errD "InvalidPoint" "InvalidPoint" ["value"] [a]))) (some (.d (.tuple [a]))) (some (.d (.list [.bool true, .bool false, .bool true, .bool false]))) x10)) by kernel_rfl]; exact ⟨_, _, _, _, _, rfl⟩⟩
theorem t01_9 (ha : sameOk 3 a = true) (hb : sameOk 3 b = true) (hc : sameOk 3 c = true) : WG b01 (r01 x0 a b c (some (.d (.int 9))) (some (.d (errD "InvalidMoment" "InvalidMoment" ["value"] [a]))) x8 x9 x10) (End01 x0 a b c) := by
  unfold b01
  refine wg_nx (ρ' := r01 x0 a b c (some (.d (.int 9))) (some (.d (errD "InvalidMoment" "InvalidMoment" ["value"] [a]))) (some (.d (.tuple [a]))) x9 x10) (by kernel_rfl) ?_
  refine wg_nx (ρ' := r01 x0 a b c (some (.d (.int 9))) (some (.d (errD "InvalidMoment" "InvalidMoment" ["value"] [a]))) (some (.d (.tuple [a]))) x9 x10) (by kernel_rfl) ?_
  refine wgt_skip (wt_nsame (wv_ret (x := .list [.str "InvalidMoment", .tuple [a]]) (by kernel_rfl) (wv_ret (x := .list [.str "InvalidMoment", .tuple [a]]) (by kernel_rfl) ⟨rfl, ?_⟩))) ?_
  · show (decide (2 ≤ 1000) && (true && ((decide (1 ≤ 1000) && (sameOk 3 a && true)) && true))) = true
    rw [ha]
    rfl
  refine wg_nx (ρ' := r01 x0 a b c (some (.d (.int 9))) (some (.d (errD "InvalidMoment" "InvalidMoment" ["value"] [a]))) (some (.d (.tuple [a]))) x9 x10) (by kernel_rfl) ?_
  refine wg_nx (ρ' := r01 x0 a b c (some (.d (.int 9))) (some (.d (errD "InvalidMoment" "InvalidMoment" ["value"] [a]))) (some (.d (.tuple [a]))) (some (.d (.list [.bool true, .bool false, .bool true, .bool false]))) x10) (by kernel_rfl) ?_
  exact ⟨by rw [show b01_5 (r01 x0 a b c (some (.d (.int 9))) (some (.d (errD "InvalidMoment" "InvalidMoment" ["value"] [a]))) (some (.d (.tuple [a]))) (some (.d (.list [.bool true, .bool false, .bool true, .bool false]))) x10) = .ret (.nx (r01 x0 a b c (some (.d (.int 9))) (some (.d (errD "InvalidMoment" "InvalidMoment" ["value"] [a]))) (some (.d (.tuple [a]))) (some (.d (.list [.bool true, .bool false, .bool true, .bool false]))) x10)) by kernel_rfl]; exact ⟨_, _, _, _, _, rfl⟩⟩
theorem t01_10 (ha : sameOk 3 a = true) (hb : sameOk 3 b = true) (hc : sameOk 3 c = true) : WG b01 (r01 x0 a b c (some (.d (.int 10))) (some (.d (errD "InvalidClause" "InvalidClause" ["at"] [a]))) x8 x9 x10) (End01 x0 a b c) := by
  unfold b01
  refine wg_nx (ρ' := r01 x0 a b c (some (.d (.int 10))) (some (.d (errD "InvalidClause" "InvalidClause" ["at"] [a]))) (some (.d (.tuple [a]))) x9 x10) (by kernel_rfl) ?_
  refine wg_nx (ρ' := r01 x0 a b c (some (.d (.int 10))) (some (.d (errD "InvalidClause" "InvalidClause" ["at"] [a]))) (some (.d (.tuple [a]))) x9 x10) (by kernel_rfl) ?_
  refine wgt_skip (wt_nsame (wv_ret (x := .list [.str "InvalidClause", .tuple [a]]) (by kernel_rfl) (wv_ret (x := .list [.str "InvalidClause", .tuple [a]]) (by kernel_rfl) ⟨rfl, ?_⟩))) ?_
  · show (decide (2 ≤ 1000) && (true && ((decide (1 ≤ 1000) && (sameOk 3 a && true)) && true))) = true
    rw [ha]
    rfl
  refine wg_nx (ρ' := r01 x0 a b c (some (.d (.int 10))) (some (.d (errD "InvalidClause" "InvalidClause" ["at"] [a]))) (some (.d (.tuple [a]))) x9 x10) (by kernel_rfl) ?_
  refine wg_nx (ρ' := r01 x0 a b c (some (.d (.int 10))) (some (.d (errD "InvalidClause" "InvalidClause" ["at"] [a]))) (some (.d (.tuple [a]))) (some (.d (.list [.bool true, .bool false, .bool true, .bool false]))) x10) (by kernel_rfl) ?_
  exact ⟨by rw [show b01_5 (r01 x0 a b c (some (.d (.int 10))) (some (.d (errD "InvalidClause" "InvalidClause" ["at"] [a]))) (some (.d (.tuple [a]))) (some (.d (.list [.bool true, .bool false, .bool true, .bool false]))) x10) = .ret (.nx (r01 x0 a b c (some (.d (.int 10))) (some (.d (errD "InvalidClause" "InvalidClause" ["at"] [a]))) (some (.d (.tuple [a]))) (some (.d (.list [.bool true, .bool false, .bool true, .bool false]))) x10)) by kernel_rfl]; exact ⟨_, _, _, _, _, rfl⟩⟩
theorem t01_11 (ha : sameOk 3 a = true) (hb : sameOk 3 b = true) (hc : sameOk 3 c = true) : WG b01 (r01 x0 a b c (some (.d (.int 11))) (some (.d (errD "Parted" "Parted" ["at", "one", "other"] [a, b, c]))) x8 x9 x10) (End01 x0 a b c) := by
  unfold b01
  refine wg_nx (ρ' := r01 x0 a b c (some (.d (.int 11))) (some (.d (errD "Parted" "Parted" ["at", "one", "other"] [a, b, c]))) (some (.d (.tuple [a]))) x9 x10) (by kernel_rfl) ?_
  refine wg_nx (ρ' := r01 x0 a b c (some (.d (.int 11))) (some (.d (errD "Parted" "Parted" ["at", "one", "other"] [a, b, c]))) (some (.d (.tuple [a, b, c]))) x9 x10) (by kernel_rfl) ?_
  refine wgt_skip (wt_nsame (wv_ret (x := .list [.str "Parted", .tuple [a, b, c]]) (by kernel_rfl) (wv_ret (x := .list [.str "Parted", .tuple [a, b, c]]) (by kernel_rfl) ⟨rfl, ?_⟩))) ?_
  · show (decide (2 ≤ 1000) && (true && ((decide (3 ≤ 1000) && (sameOk 3 a && (sameOk 3 b && (sameOk 3 c && true)))) && true))) = true
    rw [ha, hb, hc]
    rfl
  refine wg_nx (ρ' := r01 x0 a b c (some (.d (.int 11))) (some (.d (errD "Parted" "Parted" ["at", "one", "other"] [a, b, c]))) (some (.d (.tuple [a, b, c]))) x9 x10) (by kernel_rfl) ?_
  refine wg_nx (ρ' := r01 x0 a b c (some (.d (.int 11))) (some (.d (errD "Parted" "Parted" ["at", "one", "other"] [a, b, c]))) (some (.d (.tuple [a, b, c]))) (some (.d (.list [.bool true, .bool false, .bool true, .bool false]))) x10) (by kernel_rfl) ?_
  exact ⟨by rw [show b01_5 (r01 x0 a b c (some (.d (.int 11))) (some (.d (errD "Parted" "Parted" ["at", "one", "other"] [a, b, c]))) (some (.d (.tuple [a, b, c]))) (some (.d (.list [.bool true, .bool false, .bool true, .bool false]))) x10) = .ret (.nx (r01 x0 a b c (some (.d (.int 11))) (some (.d (errD "Parted" "Parted" ["at", "one", "other"] [a, b, c]))) (some (.d (.tuple [a, b, c]))) (some (.d (.list [.bool true, .bool false, .bool true, .bool false]))) x10)) by kernel_rfl]; exact ⟨_, _, _, _, _, rfl⟩⟩
theorem t01_12 (ha : sameOk 3 a = true) (hb : sameOk 3 b = true) (hc : sameOk 3 c = true) : WG b01 (r01 x0 a b c (some (.d (.int 12))) (some (.d (errD "UnlikeLogs" "UnlikeLogs" [] []))) x8 x9 x10) (End01 x0 a b c) := by
  unfold b01
  refine wg_nx (ρ' := r01 x0 a b c (some (.d (.int 12))) (some (.d (errD "UnlikeLogs" "UnlikeLogs" [] []))) (some (.d (.tuple []))) x9 x10) (by kernel_rfl) ?_
  refine wg_nx (ρ' := r01 x0 a b c (some (.d (.int 12))) (some (.d (errD "UnlikeLogs" "UnlikeLogs" [] []))) (some (.d (.tuple []))) x9 x10) (by kernel_rfl) ?_
  refine wgt_skip (wt_nsame (wv_ret (x := .list [.str "UnlikeLogs", .tuple []]) (by kernel_rfl) (wv_ret (x := .list [.str "UnlikeLogs", .tuple []]) (by kernel_rfl) ⟨rfl, ?_⟩))) ?_
  · show (decide (2 ≤ 1000) && (true && ((decide (0 ≤ 1000) && true) && true))) = true
    rfl
  refine wg_nx (ρ' := r01 x0 a b c (some (.d (.int 12))) (some (.d (errD "UnlikeLogs" "UnlikeLogs" [] []))) (some (.d (.tuple []))) x9 x10) (by kernel_rfl) ?_
  refine wg_nx (ρ' := r01 x0 a b c (some (.d (.int 12))) (some (.d (errD "UnlikeLogs" "UnlikeLogs" [] []))) (some (.d (.tuple []))) (some (.d (.list [.bool true, .bool false, .bool true, .bool false]))) x10) (by kernel_rfl) ?_
  exact ⟨by rw [show b01_5 (r01 x0 a b c (some (.d (.int 12))) (some (.d (errD "UnlikeLogs" "UnlikeLogs" [] []))) (some (.d (.tuple []))) (some (.d (.list [.bool true, .bool false, .bool true, .bool false]))) x10) = .ret (.nx (r01 x0 a b c (some (.d (.int 12))) (some (.d (errD "UnlikeLogs" "UnlikeLogs" [] []))) (some (.d (.tuple []))) (some (.d (.list [.bool true, .bool false, .bool true, .bool false]))) x10)) by kernel_rfl]; exact ⟨_, _, _, _, _, rfl⟩⟩
theorem t01_13 (ha : sameOk 3 a = true) (hb : sameOk 3 b = true) (hc : sameOk 3 c = true) : WG b01 (r01 x0 a b c (some (.d (.int 13))) (some (.d (errD "EmptyLot" "EmptyLot" [] []))) x8 x9 x10) (End01 x0 a b c) := by
  unfold b01
  refine wg_nx (ρ' := r01 x0 a b c (some (.d (.int 13))) (some (.d (errD "EmptyLot" "EmptyLot" [] []))) (some (.d (.tuple []))) x9 x10) (by kernel_rfl) ?_
  refine wg_nx (ρ' := r01 x0 a b c (some (.d (.int 13))) (some (.d (errD "EmptyLot" "EmptyLot" [] []))) (some (.d (.tuple []))) x9 x10) (by kernel_rfl) ?_
  refine wgt_skip (wt_nsame (wv_ret (x := .list [.str "EmptyLot", .tuple []]) (by kernel_rfl) (wv_ret (x := .list [.str "EmptyLot", .tuple []]) (by kernel_rfl) ⟨rfl, ?_⟩))) ?_
  · show (decide (2 ≤ 1000) && (true && ((decide (0 ≤ 1000) && true) && true))) = true
    rfl
  refine wg_nx (ρ' := r01 x0 a b c (some (.d (.int 13))) (some (.d (errD "EmptyLot" "EmptyLot" [] []))) (some (.d (.tuple []))) x9 x10) (by kernel_rfl) ?_
  refine wg_nx (ρ' := r01 x0 a b c (some (.d (.int 13))) (some (.d (errD "EmptyLot" "EmptyLot" [] []))) (some (.d (.tuple []))) (some (.d (.list [.bool true, .bool false, .bool true, .bool false]))) x10) (by kernel_rfl) ?_
  exact ⟨by rw [show b01_5 (r01 x0 a b c (some (.d (.int 13))) (some (.d (errD "EmptyLot" "EmptyLot" [] []))) (some (.d (.tuple []))) (some (.d (.list [.bool true, .bool false, .bool true, .bool false]))) x10) = .ret (.nx (r01 x0 a b c (some (.d (.int 13))) (some (.d (errD "EmptyLot" "EmptyLot" [] []))) (some (.d (.tuple []))) (some (.d (.list [.bool true, .bool false, .bool true, .bool false]))) x10)) by kernel_rfl]; exact ⟨_, _, _, _, _, rfl⟩⟩
theorem t01_14 (ha : sameOk 3 a = true) (hb : sameOk 3 b = true) (hc : sameOk 3 c = true) : WG b01 (r01 x0 a b c (some (.d (.int 14))) (some (.d (errD "InvalidNumber" "InvalidNumber" ["value"] [a]))) x8 x9 x10) (End01 x0 a b c) := by
  unfold b01
  refine wg_nx (ρ' := r01 x0 a b c (some (.d (.int 14))) (some (.d (errD "InvalidNumber" "InvalidNumber" ["value"] [a]))) (some (.d (.tuple [a]))) x9 x10) (by kernel_rfl) ?_
  refine wg_nx (ρ' := r01 x0 a b c (some (.d (.int 14))) (some (.d (errD "InvalidNumber" "InvalidNumber" ["value"] [a]))) (some (.d (.tuple [a]))) x9 x10) (by kernel_rfl) ?_
  refine wgt_skip (wt_nsame (wv_ret (x := .list [.str "InvalidNumber", .tuple [a]]) (by kernel_rfl) (wv_ret (x := .list [.str "InvalidNumber", .tuple [a]]) (by kernel_rfl) ⟨rfl, ?_⟩))) ?_
  · show (decide (2 ≤ 1000) && (true && ((decide (1 ≤ 1000) && (sameOk 3 a && true)) && true))) = true
    rw [ha]
    rfl
  refine wg_nx (ρ' := r01 x0 a b c (some (.d (.int 14))) (some (.d (errD "InvalidNumber" "InvalidNumber" ["value"] [a]))) (some (.d (.tuple [a]))) x9 x10) (by kernel_rfl) ?_
  refine wg_nx (ρ' := r01 x0 a b c (some (.d (.int 14))) (some (.d (errD "InvalidNumber" "InvalidNumber" ["value"] [a]))) (some (.d (.tuple [a]))) (some (.d (.list [.bool true, .bool false, .bool true, .bool false]))) x10) (by kernel_rfl) ?_
  exact ⟨by rw [show b01_5 (r01 x0 a b c (some (.d (.int 14))) (some (.d (errD "InvalidNumber" "InvalidNumber" ["value"] [a]))) (some (.d (.tuple [a]))) (some (.d (.list [.bool true, .bool false, .bool true, .bool false]))) x10) = .ret (.nx (r01 x0 a b c (some (.d (.int 14))) (some (.d (errD "InvalidNumber" "InvalidNumber" ["value"] [a]))) (some (.d (.tuple [a]))) (some (.d (.list [.bool true, .bool false, .bool true, .bool false]))) x10)) by kernel_rfl]; exact ⟨_, _, _, _, _, rfl⟩⟩
theorem t01_15 (ha : sameOk 3 a = true) (hb : sameOk 3 b = true) (hc : sameOk 3 c = true) : WG b01 (r01 x0 a b c (some (.d (.int 15))) (some (.d (errD "InvalidWeights" "InvalidWeights" [] []))) x8 x9 x10) (End01 x0 a b c) := by
  unfold b01
  refine wg_nx (ρ' := r01 x0 a b c (some (.d (.int 15))) (some (.d (errD "InvalidWeights" "InvalidWeights" [] []))) (some (.d (.tuple []))) x9 x10) (by kernel_rfl) ?_
  refine wg_nx (ρ' := r01 x0 a b c (some (.d (.int 15))) (some (.d (errD "InvalidWeights" "InvalidWeights" [] []))) (some (.d (.tuple []))) x9 x10) (by kernel_rfl) ?_
  refine wgt_skip (wt_nsame (wv_ret (x := .list [.str "InvalidWeights", .tuple []]) (by kernel_rfl) (wv_ret (x := .list [.str "InvalidWeights", .tuple []]) (by kernel_rfl) ⟨rfl, ?_⟩))) ?_
  · show (decide (2 ≤ 1000) && (true && ((decide (0 ≤ 1000) && true) && true))) = true
    rfl
  refine wg_nx (ρ' := r01 x0 a b c (some (.d (.int 15))) (some (.d (errD "InvalidWeights" "InvalidWeights" [] []))) (some (.d (.tuple []))) x9 x10) (by kernel_rfl) ?_
  refine wg_nx (ρ' := r01 x0 a b c (some (.d (.int 15))) (some (.d (errD "InvalidWeights" "InvalidWeights" [] []))) (some (.d (.tuple []))) (some (.d (.list [.bool true, .bool false, .bool true, .bool false]))) x10) (by kernel_rfl) ?_
  exact ⟨by rw [show b01_5 (r01 x0 a b c (some (.d (.int 15))) (some (.d (errD "InvalidWeights" "InvalidWeights" [] []))) (some (.d (.tuple []))) (some (.d (.list [.bool true, .bool false, .bool true, .bool false]))) x10) = .ret (.nx (r01 x0 a b c (some (.d (.int 15))) (some (.d (errD "InvalidWeights" "InvalidWeights" [] []))) (some (.d (.tuple []))) (some (.d (.list [.bool true, .bool false, .bool true, .bool false]))) x10)) by kernel_rfl]; exact ⟨_, _, _, _, _, rfl⟩⟩
theorem t01_16 (ha : sameOk 3 a = true) (hb : sameOk 3 b = true) (hc : sameOk 3 c = true) : WG b01 (r01 x0 a b c (some (.d (.int 16))) (some (.d (errD "Uneven" "Uneven" ["block"] [a]))) x8 x9 x10) (End01 x0 a b c) := by
  unfold b01
  refine wg_nx (ρ' := r01 x0 a b c (some (.d (.int 16))) (some (.d (errD "Uneven" "Uneven" ["block"] [a]))) (some (.d (.tuple [a]))) x9 x10) (by kernel_rfl) ?_
  refine wg_nx (ρ' := r01 x0 a b c (some (.d (.int 16))) (some (.d (errD "Uneven" "Uneven" ["block"] [a]))) (some (.d (.tuple [a]))) x9 x10) (by kernel_rfl) ?_
  refine wgt_skip (wt_nsame (wv_ret (x := .list [.str "Uneven", .tuple [a]]) (by kernel_rfl) (wv_ret (x := .list [.str "Uneven", .tuple [a]]) (by kernel_rfl) ⟨rfl, ?_⟩))) ?_
  · show (decide (2 ≤ 1000) && (true && ((decide (1 ≤ 1000) && (sameOk 3 a && true)) && true))) = true
    rw [ha]
    rfl
  refine wg_nx (ρ' := r01 x0 a b c (some (.d (.int 16))) (some (.d (errD "Uneven" "Uneven" ["block"] [a]))) (some (.d (.tuple [a]))) x9 x10) (by kernel_rfl) ?_
  refine wg_nx (ρ' := r01 x0 a b c (some (.d (.int 16))) (some (.d (errD "Uneven" "Uneven" ["block"] [a]))) (some (.d (.tuple [a]))) (some (.d (.list [.bool true, .bool false, .bool true, .bool false]))) x10) (by kernel_rfl) ?_
  exact ⟨by rw [show b01_5 (r01 x0 a b c (some (.d (.int 16))) (some (.d (errD "Uneven" "Uneven" ["block"] [a]))) (some (.d (.tuple [a]))) (some (.d (.list [.bool true, .bool false, .bool true, .bool false]))) x10) = .ret (.nx (r01 x0 a b c (some (.d (.int 16))) (some (.d (errD "Uneven" "Uneven" ["block"] [a]))) (some (.d (.tuple [a]))) (some (.d (.list [.bool true, .bool false, .bool true, .bool false]))) x10)) by kernel_rfl]; exact ⟨_, _, _, _, _, rfl⟩⟩
theorem t01_17 (ha : sameOk 3 a = true) (hb : sameOk 3 b = true) (hc : sameOk 3 c = true) : WG b01 (r01 x0 a b c (some (.d (.int 17))) (some (.d (errD "InvalidTests" "InvalidTests" ["at"] [a]))) x8 x9 x10) (End01 x0 a b c) := by
  unfold b01
  refine wg_nx (ρ' := r01 x0 a b c (some (.d (.int 17))) (some (.d (errD "InvalidTests" "InvalidTests" ["at"] [a]))) (some (.d (.tuple [a]))) x9 x10) (by kernel_rfl) ?_
  refine wg_nx (ρ' := r01 x0 a b c (some (.d (.int 17))) (some (.d (errD "InvalidTests" "InvalidTests" ["at"] [a]))) (some (.d (.tuple [a]))) x9 x10) (by kernel_rfl) ?_
  refine wgt_skip (wt_nsame (wv_ret (x := .list [.str "InvalidTests", .tuple [a]]) (by kernel_rfl) (wv_ret (x := .list [.str "InvalidTests", .tuple [a]]) (by kernel_rfl) ⟨rfl, ?_⟩))) ?_
  · show (decide (2 ≤ 1000) && (true && ((decide (1 ≤ 1000) && (sameOk 3 a && true)) && true))) = true
    rw [ha]
    rfl
  refine wg_nx (ρ' := r01 x0 a b c (some (.d (.int 17))) (some (.d (errD "InvalidTests" "InvalidTests" ["at"] [a]))) (some (.d (.tuple [a]))) x9 x10) (by kernel_rfl) ?_
  refine wg_nx (ρ' := r01 x0 a b c (some (.d (.int 17))) (some (.d (errD "InvalidTests" "InvalidTests" ["at"] [a]))) (some (.d (.tuple [a]))) (some (.d (.list [.bool true, .bool false, .bool true, .bool false]))) x10) (by kernel_rfl) ?_
  exact ⟨by rw [show b01_5 (r01 x0 a b c (some (.d (.int 17))) (some (.d (errD "InvalidTests" "InvalidTests" ["at"] [a]))) (some (.d (.tuple [a]))) (some (.d (.list [.bool true, .bool false, .bool true, .bool false]))) x10) = .ret (.nx (r01 x0 a b c (some (.d (.int 17))) (some (.d (errD "InvalidTests" "InvalidTests" ["at"] [a]))) (some (.d (.tuple [a]))) (some (.d (.list [.bool true, .bool false, .bool true, .bool false]))) x10)) by kernel_rfl]; exact ⟨_, _, _, _, _, rfl⟩⟩
theorem t01_18 (ha : sameOk 3 a = true) (hb : sameOk 3 b = true) (hc : sameOk 3 c = true) : WG b01 (r01 x0 a b c (some (.d (.int 18))) (some (.d (errD "InvalidText" "InvalidText" ["at"] [a]))) x8 x9 x10) (End01 x0 a b c) := by
  unfold b01
  refine wg_nx (ρ' := r01 x0 a b c (some (.d (.int 18))) (some (.d (errD "InvalidText" "InvalidText" ["at"] [a]))) (some (.d (.tuple [a]))) x9 x10) (by kernel_rfl) ?_
  refine wg_nx (ρ' := r01 x0 a b c (some (.d (.int 18))) (some (.d (errD "InvalidText" "InvalidText" ["at"] [a]))) (some (.d (.tuple [a]))) x9 x10) (by kernel_rfl) ?_
  refine wgt_skip (wt_nsame (wv_ret (x := .list [.str "InvalidText", .tuple [a]]) (by kernel_rfl) (wv_ret (x := .list [.str "InvalidText", .tuple [a]]) (by kernel_rfl) ⟨rfl, ?_⟩))) ?_
  · show (decide (2 ≤ 1000) && (true && ((decide (1 ≤ 1000) && (sameOk 3 a && true)) && true))) = true
    rw [ha]
    rfl
  refine wg_nx (ρ' := r01 x0 a b c (some (.d (.int 18))) (some (.d (errD "InvalidText" "InvalidText" ["at"] [a]))) (some (.d (.tuple [a]))) x9 x10) (by kernel_rfl) ?_
  refine wg_nx (ρ' := r01 x0 a b c (some (.d (.int 18))) (some (.d (errD "InvalidText" "InvalidText" ["at"] [a]))) (some (.d (.tuple [a]))) (some (.d (.list [.bool true, .bool false, .bool true, .bool false]))) x10) (by kernel_rfl) ?_
  exact ⟨by rw [show b01_5 (r01 x0 a b c (some (.d (.int 18))) (some (.d (errD "InvalidText" "InvalidText" ["at"] [a]))) (some (.d (.tuple [a]))) (some (.d (.list [.bool true, .bool false, .bool true, .bool false]))) x10) = .ret (.nx (r01 x0 a b c (some (.d (.int 18))) (some (.d (errD "InvalidText" "InvalidText" ["at"] [a]))) (some (.d (.tuple [a]))) (some (.d (.list [.bool true, .bool false, .bool true, .bool false]))) x10)) by kernel_rfl]; exact ⟨_, _, _, _, _, rfl⟩⟩
theorem t01_19 (ha : sameOk 3 a = true) (hb : sameOk 3 b = true) (hc : sameOk 3 c = true) : WG b01 (r01 x0 a b c (some (.d (.int 19))) (some (.d (errD "InvalidCommand" "InvalidCommand" ["at"] [a]))) x8 x9 x10) (End01 x0 a b c) := by
  unfold b01
  refine wg_nx (ρ' := r01 x0 a b c (some (.d (.int 19))) (some (.d (errD "InvalidCommand" "InvalidCommand" ["at"] [a]))) (some (.d (.tuple [a]))) x9 x10) (by kernel_rfl) ?_
  refine wg_nx (ρ' := r01 x0 a b c (some (.d (.int 19))) (some (.d (errD "InvalidCommand" "InvalidCommand" ["at"] [a]))) (some (.d (.tuple [a]))) x9 x10) (by kernel_rfl) ?_
  refine wgt_skip (wt_nsame (wv_ret (x := .list [.str "InvalidCommand", .tuple [a]]) (by kernel_rfl) (wv_ret (x := .list [.str "InvalidCommand", .tuple [a]]) (by kernel_rfl) ⟨rfl, ?_⟩))) ?_
  · show (decide (2 ≤ 1000) && (true && ((decide (1 ≤ 1000) && (sameOk 3 a && true)) && true))) = true
    rw [ha]
    rfl
  refine wg_nx (ρ' := r01 x0 a b c (some (.d (.int 19))) (some (.d (errD "InvalidCommand" "InvalidCommand" ["at"] [a]))) (some (.d (.tuple [a]))) x9 x10) (by kernel_rfl) ?_
  refine wg_nx (ρ' := r01 x0 a b c (some (.d (.int 19))) (some (.d (errD "InvalidCommand" "InvalidCommand" ["at"] [a]))) (some (.d (.tuple [a]))) (some (.d (.list [.bool true, .bool false, .bool true, .bool false]))) x10) (by kernel_rfl) ?_
  exact ⟨by rw [show b01_5 (r01 x0 a b c (some (.d (.int 19))) (some (.d (errD "InvalidCommand" "InvalidCommand" ["at"] [a]))) (some (.d (.tuple [a]))) (some (.d (.list [.bool true, .bool false, .bool true, .bool false]))) x10) = .ret (.nx (r01 x0 a b c (some (.d (.int 19))) (some (.d (errD "InvalidCommand" "InvalidCommand" ["at"] [a]))) (some (.d (.tuple [a]))) (some (.d (.list [.bool true, .bool false, .bool true, .bool false]))) x10)) by kernel_rfl]; exact ⟨_, _, _, _, _, rfl⟩⟩
theorem t01_20 (ha : sameOk 3 a = true) (hb : sameOk 3 b = true) (hc : sameOk 3 c = true) : WG b01 (r01 x0 a b c (some (.d (.int 20))) (some (.d (errD "Full" "Full" ["limit"] [a]))) x8 x9 x10) (End01 x0 a b c) := by
  unfold b01
  refine wg_nx (ρ' := r01 x0 a b c (some (.d (.int 20))) (some (.d (errD "Full" "Full" ["limit"] [a]))) (some (.d (.tuple [a]))) x9 x10) (by kernel_rfl) ?_
  refine wg_nx (ρ' := r01 x0 a b c (some (.d (.int 20))) (some (.d (errD "Full" "Full" ["limit"] [a]))) (some (.d (.tuple [a]))) x9 x10) (by kernel_rfl) ?_
  refine wgt_skip (wt_nsame (wv_ret (x := .list [.str "Full", .tuple [a]]) (by kernel_rfl) (wv_ret (x := .list [.str "Full", .tuple [a]]) (by kernel_rfl) ⟨rfl, ?_⟩))) ?_
  · show (decide (2 ≤ 1000) && (true && ((decide (1 ≤ 1000) && (sameOk 3 a && true)) && true))) = true
    rw [ha]
    rfl
  refine wg_nx (ρ' := r01 x0 a b c (some (.d (.int 20))) (some (.d (errD "Full" "Full" ["limit"] [a]))) (some (.d (.tuple [a]))) x9 x10) (by kernel_rfl) ?_
  refine wg_nx (ρ' := r01 x0 a b c (some (.d (.int 20))) (some (.d (errD "Full" "Full" ["limit"] [a]))) (some (.d (.tuple [a]))) (some (.d (.list [.bool true, .bool false, .bool true, .bool false]))) x10) (by kernel_rfl) ?_
  exact ⟨by rw [show b01_5 (r01 x0 a b c (some (.d (.int 20))) (some (.d (errD "Full" "Full" ["limit"] [a]))) (some (.d (.tuple [a]))) (some (.d (.list [.bool true, .bool false, .bool true, .bool false]))) x10) = .ret (.nx (r01 x0 a b c (some (.d (.int 20))) (some (.d (errD "Full" "Full" ["limit"] [a]))) (some (.d (.tuple [a]))) (some (.d (.list [.bool true, .bool false, .bool true, .bool false]))) x10)) by kernel_rfl]; exact ⟨_, _, _, _, _, rfl⟩⟩
theorem t01_21 (ha : sameOk 3 a = true) (hb : sameOk 3 b = true) (hc : sameOk 3 c = true) : WG b01 (r01 x0 a b c (some (.d (.int 21))) (some (.d (errD "InvalidLimit" "InvalidLimit" ["value"] [a]))) x8 x9 x10) (End01 x0 a b c) := by
  unfold b01
  refine wg_nx (ρ' := r01 x0 a b c (some (.d (.int 21))) (some (.d (errD "InvalidLimit" "InvalidLimit" ["value"] [a]))) (some (.d (.tuple [a]))) x9 x10) (by kernel_rfl) ?_
  refine wg_nx (ρ' := r01 x0 a b c (some (.d (.int 21))) (some (.d (errD "InvalidLimit" "InvalidLimit" ["value"] [a]))) (some (.d (.tuple [a]))) x9 x10) (by kernel_rfl) ?_
  refine wgt_skip (wt_nsame (wv_ret (x := .list [.str "InvalidLimit", .tuple [a]]) (by kernel_rfl) (wv_ret (x := .list [.str "InvalidLimit", .tuple [a]]) (by kernel_rfl) ⟨rfl, ?_⟩))) ?_
  · show (decide (2 ≤ 1000) && (true && ((decide (1 ≤ 1000) && (sameOk 3 a && true)) && true))) = true
    rw [ha]
    rfl
  refine wg_nx (ρ' := r01 x0 a b c (some (.d (.int 21))) (some (.d (errD "InvalidLimit" "InvalidLimit" ["value"] [a]))) (some (.d (.tuple [a]))) x9 x10) (by kernel_rfl) ?_
  refine wg_nx (ρ' := r01 x0 a b c (some (.d (.int 21))) (some (.d (errD "InvalidLimit" "InvalidLimit" ["value"] [a]))) (some (.d (.tuple [a]))) (some (.d (.list [.bool true, .bool false, .bool true, .bool false]))) x10) (by kernel_rfl) ?_
  exact ⟨by rw [show b01_5 (r01 x0 a b c (some (.d (.int 21))) (some (.d (errD "InvalidLimit" "InvalidLimit" ["value"] [a]))) (some (.d (.tuple [a]))) (some (.d (.list [.bool true, .bool false, .bool true, .bool false]))) x10) = .ret (.nx (r01 x0 a b c (some (.d (.int 21))) (some (.d (errD "InvalidLimit" "InvalidLimit" ["value"] [a]))) (some (.d (.tuple [a]))) (some (.d (.list [.bool true, .bool false, .bool true, .bool false]))) x10)) by kernel_rfl]; exact ⟨_, _, _, _, _, rfl⟩⟩
theorem t01_22 (ha : sameOk 3 a = true) (hb : sameOk 3 b = true) (hc : sameOk 3 c = true) : WG b01 (r01 x0 a b c (some (.d (.int 22))) (some (.d (errD "InvalidPage" "InvalidPage" ["line"] [a]))) x8 x9 x10) (End01 x0 a b c) := by
  unfold b01
  refine wg_nx (ρ' := r01 x0 a b c (some (.d (.int 22))) (some (.d (errD "InvalidPage" "InvalidPage" ["line"] [a]))) (some (.d (.tuple [a]))) x9 x10) (by kernel_rfl) ?_
  refine wg_nx (ρ' := r01 x0 a b c (some (.d (.int 22))) (some (.d (errD "InvalidPage" "InvalidPage" ["line"] [a]))) (some (.d (.tuple [a]))) x9 x10) (by kernel_rfl) ?_
  refine wgt_skip (wt_nsame (wv_ret (x := .list [.str "InvalidPage", .tuple [a]]) (by kernel_rfl) (wv_ret (x := .list [.str "InvalidPage", .tuple [a]]) (by kernel_rfl) ⟨rfl, ?_⟩))) ?_
  · show (decide (2 ≤ 1000) && (true && ((decide (1 ≤ 1000) && (sameOk 3 a && true)) && true))) = true
    rw [ha]
    rfl
  refine wg_nx (ρ' := r01 x0 a b c (some (.d (.int 22))) (some (.d (errD "InvalidPage" "InvalidPage" ["line"] [a]))) (some (.d (.tuple [a]))) x9 x10) (by kernel_rfl) ?_
  refine wg_nx (ρ' := r01 x0 a b c (some (.d (.int 22))) (some (.d (errD "InvalidPage" "InvalidPage" ["line"] [a]))) (some (.d (.tuple [a]))) (some (.d (.list [.bool true, .bool false, .bool true, .bool false]))) x10) (by kernel_rfl) ?_
  exact ⟨by rw [show b01_5 (r01 x0 a b c (some (.d (.int 22))) (some (.d (errD "InvalidPage" "InvalidPage" ["line"] [a]))) (some (.d (.tuple [a]))) (some (.d (.list [.bool true, .bool false, .bool true, .bool false]))) x10) = .ret (.nx (r01 x0 a b c (some (.d (.int 22))) (some (.d (errD "InvalidPage" "InvalidPage" ["line"] [a]))) (some (.d (.tuple [a]))) (some (.d (.list [.bool true, .bool false, .bool true, .bool false]))) x10)) by kernel_rfl]; exact ⟨_, _, _, _, _, rfl⟩⟩
theorem t01_23 (ha : sameOk 3 a = true) (hb : sameOk 3 b = true) (hc : sameOk 3 c = true) : WG b01 (r01 x0 a b c (some (.d (.int 23))) (some (.d (errD "UnknownProcess" "UnknownProcess" ["name"] [a]))) x8 x9 x10) (End01 x0 a b c) := by
  unfold b01
  refine wg_nx (ρ' := r01 x0 a b c (some (.d (.int 23))) (some (.d (errD "UnknownProcess" "UnknownProcess" ["name"] [a]))) (some (.d (.tuple [a]))) x9 x10) (by kernel_rfl) ?_
  refine wg_nx (ρ' := r01 x0 a b c (some (.d (.int 23))) (some (.d (errD "UnknownProcess" "UnknownProcess" ["name"] [a]))) (some (.d (.tuple [a]))) x9 x10) (by kernel_rfl) ?_
  refine wgt_skip (wt_nsame (wv_ret (x := .list [.str "UnknownProcess", .tuple [a]]) (by kernel_rfl) (wv_ret (x := .list [.str "UnknownProcess", .tuple [a]]) (by kernel_rfl) ⟨rfl, ?_⟩))) ?_
  · show (decide (2 ≤ 1000) && (true && ((decide (1 ≤ 1000) && (sameOk 3 a && true)) && true))) = true
    rw [ha]
    rfl
  refine wg_nx (ρ' := r01 x0 a b c (some (.d (.int 23))) (some (.d (errD "UnknownProcess" "UnknownProcess" ["name"] [a]))) (some (.d (.tuple [a]))) x9 x10) (by kernel_rfl) ?_
  refine wg_nx (ρ' := r01 x0 a b c (some (.d (.int 23))) (some (.d (errD "UnknownProcess" "UnknownProcess" ["name"] [a]))) (some (.d (.tuple [a]))) (some (.d (.list [.bool false, .bool true, .bool false, .bool true]))) x10) (by kernel_rfl) ?_
  exact ⟨by rw [show b01_5 (r01 x0 a b c (some (.d (.int 23))) (some (.d (errD "UnknownProcess" "UnknownProcess" ["name"] [a]))) (some (.d (.tuple [a]))) (some (.d (.list [.bool false, .bool true, .bool false, .bool true]))) x10) = .ret (.nx (r01 x0 a b c (some (.d (.int 23))) (some (.d (errD "UnknownProcess" "UnknownProcess" ["name"] [a]))) (some (.d (.tuple [a]))) (some (.d (.list [.bool false, .bool true, .bool false, .bool true]))) x10)) by kernel_rfl]; exact ⟨_, _, _, _, _, rfl⟩⟩
theorem t01_24 (ha : sameOk 3 a = true) (hb : sameOk 3 b = true) (hc : sameOk 3 c = true) : WG b01 (r01 x0 a b c (some (.d (.int 24))) (some (.d (errD "UnknownStep" "UnknownStep" ["step"] [a]))) x8 x9 x10) (End01 x0 a b c) := by
  unfold b01
  refine wg_nx (ρ' := r01 x0 a b c (some (.d (.int 24))) (some (.d (errD "UnknownStep" "UnknownStep" ["step"] [a]))) (some (.d (.tuple [a]))) x9 x10) (by kernel_rfl) ?_
  refine wg_nx (ρ' := r01 x0 a b c (some (.d (.int 24))) (some (.d (errD "UnknownStep" "UnknownStep" ["step"] [a]))) (some (.d (.tuple [a]))) x9 x10) (by kernel_rfl) ?_
  refine wgt_skip (wt_nsame (wv_ret (x := .list [.str "UnknownStep", .tuple [a]]) (by kernel_rfl) (wv_ret (x := .list [.str "UnknownStep", .tuple [a]]) (by kernel_rfl) ⟨rfl, ?_⟩))) ?_
  · show (decide (2 ≤ 1000) && (true && ((decide (1 ≤ 1000) && (sameOk 3 a && true)) && true))) = true
    rw [ha]
    rfl
  refine wg_nx (ρ' := r01 x0 a b c (some (.d (.int 24))) (some (.d (errD "UnknownStep" "UnknownStep" ["step"] [a]))) (some (.d (.tuple [a]))) x9 x10) (by kernel_rfl) ?_
  refine wg_nx (ρ' := r01 x0 a b c (some (.d (.int 24))) (some (.d (errD "UnknownStep" "UnknownStep" ["step"] [a]))) (some (.d (.tuple [a]))) (some (.d (.list [.bool false, .bool true, .bool false, .bool true]))) x10) (by kernel_rfl) ?_
  exact ⟨by rw [show b01_5 (r01 x0 a b c (some (.d (.int 24))) (some (.d (errD "UnknownStep" "UnknownStep" ["step"] [a]))) (some (.d (.tuple [a]))) (some (.d (.list [.bool false, .bool true, .bool false, .bool true]))) x10) = .ret (.nx (r01 x0 a b c (some (.d (.int 24))) (some (.d (errD "UnknownStep" "UnknownStep" ["step"] [a]))) (some (.d (.tuple [a]))) (some (.d (.list [.bool false, .bool true, .bool false, .bool true]))) x10)) by kernel_rfl]; exact ⟨_, _, _, _, _, rfl⟩⟩
theorem t01_25 (ha : sameOk 3 a = true) (hb : sameOk 3 b = true) (hc : sameOk 3 c = true) : WG b01 (r01 x0 a b c (some (.d (.int 25))) (some (.d (errD "UnknownName" "UnknownName" ["name"] [a]))) x8 x9 x10) (End01 x0 a b c) := by
  unfold b01
  refine wg_nx (ρ' := r01 x0 a b c (some (.d (.int 25))) (some (.d (errD "UnknownName" "UnknownName" ["name"] [a]))) (some (.d (.tuple [a]))) x9 x10) (by kernel_rfl) ?_
  refine wg_nx (ρ' := r01 x0 a b c (some (.d (.int 25))) (some (.d (errD "UnknownName" "UnknownName" ["name"] [a]))) (some (.d (.tuple [a]))) x9 x10) (by kernel_rfl) ?_
  refine wgt_skip (wt_nsame (wv_ret (x := .list [.str "UnknownName", .tuple [a]]) (by kernel_rfl) (wv_ret (x := .list [.str "UnknownName", .tuple [a]]) (by kernel_rfl) ⟨rfl, ?_⟩))) ?_
  · show (decide (2 ≤ 1000) && (true && ((decide (1 ≤ 1000) && (sameOk 3 a && true)) && true))) = true
    rw [ha]
    rfl
  refine wg_nx (ρ' := r01 x0 a b c (some (.d (.int 25))) (some (.d (errD "UnknownName" "UnknownName" ["name"] [a]))) (some (.d (.tuple [a]))) x9 x10) (by kernel_rfl) ?_
  refine wg_nx (ρ' := r01 x0 a b c (some (.d (.int 25))) (some (.d (errD "UnknownName" "UnknownName" ["name"] [a]))) (some (.d (.tuple [a]))) (some (.d (.list [.bool false, .bool true, .bool false, .bool true]))) x10) (by kernel_rfl) ?_
  exact ⟨by rw [show b01_5 (r01 x0 a b c (some (.d (.int 25))) (some (.d (errD "UnknownName" "UnknownName" ["name"] [a]))) (some (.d (.tuple [a]))) (some (.d (.list [.bool false, .bool true, .bool false, .bool true]))) x10) = .ret (.nx (r01 x0 a b c (some (.d (.int 25))) (some (.d (errD "UnknownName" "UnknownName" ["name"] [a]))) (some (.d (.tuple [a]))) (some (.d (.list [.bool false, .bool true, .bool false, .bool true]))) x10)) by kernel_rfl]; exact ⟨_, _, _, _, _, rfl⟩⟩
theorem t01_26 (ha : sameOk 3 a = true) (hb : sameOk 3 b = true) (hc : sameOk 3 c = true) : WG b01 (r01 x0 a b c (some (.d (.int 26))) (some (.d (errD "NothingLeft" "NothingLeft" [] []))) x8 x9 x10) (End01 x0 a b c) := by
  unfold b01
  refine wg_nx (ρ' := r01 x0 a b c (some (.d (.int 26))) (some (.d (errD "NothingLeft" "NothingLeft" [] []))) (some (.d (.tuple []))) x9 x10) (by kernel_rfl) ?_
  refine wg_nx (ρ' := r01 x0 a b c (some (.d (.int 26))) (some (.d (errD "NothingLeft" "NothingLeft" [] []))) (some (.d (.tuple []))) x9 x10) (by kernel_rfl) ?_
  refine wgt_skip (wt_nsame (wv_ret (x := .list [.str "NothingLeft", .tuple []]) (by kernel_rfl) (wv_ret (x := .list [.str "NothingLeft", .tuple []]) (by kernel_rfl) ⟨rfl, ?_⟩))) ?_
  · show (decide (2 ≤ 1000) && (true && ((decide (0 ≤ 1000) && true) && true))) = true
    rfl
  refine wg_nx (ρ' := r01 x0 a b c (some (.d (.int 26))) (some (.d (errD "NothingLeft" "NothingLeft" [] []))) (some (.d (.tuple []))) x9 x10) (by kernel_rfl) ?_
  refine wg_nx (ρ' := r01 x0 a b c (some (.d (.int 26))) (some (.d (errD "NothingLeft" "NothingLeft" [] []))) (some (.d (.tuple []))) (some (.d (.list [.bool false, .bool false, .bool false, .bool true]))) x10) (by kernel_rfl) ?_
  exact ⟨by rw [show b01_5 (r01 x0 a b c (some (.d (.int 26))) (some (.d (errD "NothingLeft" "NothingLeft" [] []))) (some (.d (.tuple []))) (some (.d (.list [.bool false, .bool false, .bool false, .bool true]))) x10) = .ret (.nx (r01 x0 a b c (some (.d (.int 26))) (some (.d (errD "NothingLeft" "NothingLeft" [] []))) (some (.d (.tuple []))) (some (.d (.list [.bool false, .bool false, .bool false, .bool true]))) x10)) by kernel_rfl]; exact ⟨_, _, _, _, _, rfl⟩⟩
end
end TM
namespace TM
open PySem PySem.Spec PyProof.Rows L2
def odds01 : List PyData := [.none, .bool true, .bool false, .str "", .str "A", .int (-1), .int 1000000, .tuple [.int 1], .list [.int 1], .tuple [], .tuple [.int 0, .bool true], .str "1"]
theorem odd01_wc {others : List PyData} (h : others.length ≤ 10) (q : ∀ z ∈ others, sameOk 3 z = true) : WC (S_z01_law_odd [.bag, .d (.list others)]) fun z => sameOk 3 z = true :=
  .fn (wgs_ret (WV.mono (P := fun z => sameOk 3 z = true) (wv_of rfl (wv_ret (x := .list (odds01 ++ others)) (f2_ret (x := .d (.list odds01)) (y := .d (.list others)) (by kernel_rfl) rfl (cat_lst (by show 12 + others.length ≤ _; omega))) ⟨_, rfl, by simp [odds01], by rw [List.length_append]; show 12 + others.length < _; omega, fun z hz => by
    rcases List.mem_append.mp hz with hz | hz
    · simp only [odds01, List.mem_cons, List.not_mem_nil, or_false] at hz
      rcases hz with rfl | rfl | rfl | rfl | rfl | rfl | rfl | rfl | rfl | rfl | rfl | rfl <;> rfl
    · exact q z hz⟩)) fun x hx => ⟨_, rfl, hx⟩))
theorem wv_callBag {fs : List Sl → Fr Sl} {fe : Rn → Fr Sl} {ρ : Rn} {P : PyData → Prop} (hb : ρ[1]? = some (some .bag)) (h : WV fe ρ fun l => WC (fs [.bag, .d l]) P) : WV (fCall 2 fs (fCons (fVar 1) (fCons fe fNil))) ρ P := ⟨by
  rw [fCall_eq, fCons_eq, fVar_eq, hb]
  simp only [bind_ret, fCons_eq, fNil_eq]
  refine Fr.wp_bind.mpr (Fr.wp_bind.mpr (Fr.wp_bind.mpr (Fr.wp_mono (fun s ⟨x, e, q⟩ => ?_) h.ok)))
  subst e
  exact q.ok⟩
def en01 (a b c : PyData) : List PyData := [.tuple [.int 0, errD "InvalidName" "InvalidName" ["value"] [a]], .tuple [.int 1, errD "InvalidRow" "InvalidRow" ["at"] [a]], .tuple [.int 2, errD "DuplicateName" "DuplicateName" ["name"] [a]], .tuple [.int 3, errD "InvalidStep" "InvalidStep" ["process", "index"] [a, b]], .tuple [.int 4, errD "DuplicateMessage" "DuplicateMessage" ["message"] [a]], .tuple [.int 5, errD "Unsent" "Unsent" ["message"] [a]], .tuple [.int 6, errD "Ring" "Ring" ["process"] [a]], .tuple [.int 7, errD "TooMany" "TooMany" ["subject", "most"] [a, b]], .tuple [.int 8, errD "InvalidPoint" "InvalidPoint" ["value"] [a]], .tuple [.int 9, errD "InvalidMoment" "InvalidMoment" ["value"] [a]], .tuple [.int 10, errD "InvalidClause" "InvalidClause" ["at"] [a]], .tuple [.int 11, errD "Parted" "Parted" ["at", "one", "other"] [a, b, c]], .tuple [.int 12, errD "UnlikeLogs" "UnlikeLogs" [] []], .tuple [.int 13, errD "EmptyLot" "EmptyLot" [] []], .tuple [.int 14, errD "InvalidNumber" "InvalidNumber" ["value"] [a]], .tuple [.int 15, errD "InvalidWeights" "InvalidWeights" [] []], .tuple [.int 16, errD "Uneven" "Uneven" ["block"] [a]], .tuple [.int 17, errD "InvalidTests" "InvalidTests" ["at"] [a]], .tuple [.int 18, errD "InvalidText" "InvalidText" ["at"] [a]], .tuple [.int 19, errD "InvalidCommand" "InvalidCommand" ["at"] [a]], .tuple [.int 20, errD "Full" "Full" ["limit"] [a]], .tuple [.int 21, errD "InvalidLimit" "InvalidLimit" ["value"] [a]], .tuple [.int 22, errD "InvalidPage" "InvalidPage" ["line"] [a]], .tuple [.int 23, errD "UnknownProcess" "UnknownProcess" ["name"] [a]], .tuple [.int 24, errD "UnknownStep" "UnknownStep" ["step"] [a]], .tuple [.int 25, errD "UnknownName" "UnknownName" ["name"] [a]], .tuple [.int 26, errD "NothingLeft" "NothingLeft" [] []]]
theorem same01 {a b c : PyData} (ha : sameOk 3 a = true) (hb : sameOk 3 b = true) (hc : sameOk 3 c = true) : sameOk 5 (.list (flds01 a b c)) = true := by
  show (decide (27 ≤ 1000) && ((decide (1 ≤ 1000) && (sameOk 3 a && true)) && ((decide (1 ≤ 1000) && (sameOk 3 a && true)) && ((decide (1 ≤ 1000) && (sameOk 3 a && true)) && ((decide (2 ≤ 1000) && (sameOk 3 a && (sameOk 3 b && true))) && ((decide (1 ≤ 1000) && (sameOk 3 a && true)) && ((decide (1 ≤ 1000) && (sameOk 3 a && true)) && ((decide (1 ≤ 1000) && (sameOk 3 a && true)) && ((decide (2 ≤ 1000) && (sameOk 3 a && (sameOk 3 b && true))) && ((decide (1 ≤ 1000) && (sameOk 3 a && true)) && ((decide (1 ≤ 1000) && (sameOk 3 a && true)) && ((decide (1 ≤ 1000) && (sameOk 3 a && true)) && ((decide (3 ≤ 1000) && (sameOk 3 a && (sameOk 3 b && (sameOk 3 c && true)))) && ((decide (0 ≤ 1000) && true) && ((decide (0 ≤ 1000) && true) && ((decide (1 ≤ 1000) && (sameOk 3 a && true)) && ((decide (0 ≤ 1000) && true) && ((decide (1 ≤ 1000) && (sameOk 3 a && true)) && ((decide (1 ≤ 1000) && (sameOk 3 a && true)) && ((decide (1 ≤ 1000) && (sameOk 3 a && true)) && ((decide (1 ≤ 1000) && (sameOk 3 a && true)) && ((decide (1 ≤ 1000) && (sameOk 3 a && true)) && ((decide (1 ≤ 1000) && (sameOk 3 a && true)) && ((decide (1 ≤ 1000) && (sameOk 3 a && true)) && ((decide (1 ≤ 1000) && (sameOk 3 a && true)) && ((decide (1 ≤ 1000) && (sameOk 3 a && true)) && ((decide (1 ≤ 1000) && (sameOk 3 a && true)) && ((decide (0 ≤ 1000) && true) && true)))))))))))))))))))))))))))) = true
  rw [ha, hb, hc]
  rfl
theorem law01 : WG g_law (bagR 9) Yes := by
  unfold g_law
  refine wg_par (we_dat (WV.mono (wv_callBag rfl (wv_lst (wl_cons (P := fun xs => xs.length ≤ 16777216 ∧ WC (S_z01_law_odd [.bag, .d (.list xs)]) fun z => sameOk 3 z = true) ⟨?_⟩))) fun a ha => we_dat (WV.mono (wv_callBag rfl (wv_ret (x := .list [.str "x", .tuple [.int 3, .str "y"]]) rfl (odd01_wc (by simp) fun z hz => ?_))) fun b hb => we_nil ?_)))
  · refine wp_drawE (n := 1000000000) rfl (by kernel_rfl) (by omega) (by omega) fun k hk => ⟨_, rfl, wl_nil ⟨by simp, odd01_wc (by simp) fun z hz => ?_⟩⟩
    rw [List.mem_singleton.mp hz]
    rfl
  · simp only [List.mem_cons, List.not_mem_nil, or_false] at hz
    rcases hz with rfl | rfl <;> rfl
  refine wg_par (we_dat (WV.mono (wv_callBag rfl (wv_ret (x := .list [.list [.int 4]]) rfl (odd01_wc (by simp) fun z hz => by rw [List.mem_singleton.mp hz]; rfl))) fun c hc => we_dat (wv_ret (x := .list codes01) ?_ (we_nil ?_))))
  · exact codes_01
  change WG _ (r01 none a b c none none none none none) _
  refine wg_for (xs := en01 a b c) (Inv := fun ρ => ∃ x6 x7 x8 x9 x10, ρ = r01 none a b c x6 x7 x8 x9 x10) (by kernel_rfl) (fun x hx ρ ⟨x6, x7, x8, x9, x10, e⟩ => ?_) ⟨_, _, _, _, _, rfl⟩ fun ρ ⟨x6, x7, x8, x9, x10, e⟩ => ?_
  · subst e
    simp only [en01, List.mem_cons, List.not_mem_nil, or_false] at hx
    have go : ∀ {o : Out}, End01 none a b c o → ∃ ρ2, (o = .nx ρ2 ∨ o = .ct ρ2) ∧ ∃ x6 x7 x8 x9 x10, ρ2 = r01 none a b c x6 x7 x8 x9 x10 := fun ⟨x6, x7, x8, x9, x10, e⟩ => ⟨_, .inl e, _, _, _, _, _, rfl⟩
    rcases hx with rfl | rfl | rfl | rfl | rfl | rfl | rfl | rfl | rfl | rfl | rfl | rfl | rfl | rfl | rfl | rfl | rfl | rfl | rfl | rfl | rfl | rfl | rfl | rfl | rfl | rfl | rfl
    · exact ⟨_, rfl, (t01_0 ha hb hc).mono fun _ => go⟩
    · exact ⟨_, rfl, (t01_1 ha hb hc).mono fun _ => go⟩
    · exact ⟨_, rfl, (t01_2 ha hb hc).mono fun _ => go⟩
    · exact ⟨_, rfl, (t01_3 ha hb hc).mono fun _ => go⟩
    · exact ⟨_, rfl, (t01_4 ha hb hc).mono fun _ => go⟩
    · exact ⟨_, rfl, (t01_5 ha hb hc).mono fun _ => go⟩
    · exact ⟨_, rfl, (t01_6 ha hb hc).mono fun _ => go⟩
    · exact ⟨_, rfl, (t01_7 ha hb hc).mono fun _ => go⟩
    · exact ⟨_, rfl, (t01_8 ha hb hc).mono fun _ => go⟩
    · exact ⟨_, rfl, (t01_9 ha hb hc).mono fun _ => go⟩
    · exact ⟨_, rfl, (t01_10 ha hb hc).mono fun _ => go⟩
    · exact ⟨_, rfl, (t01_11 ha hb hc).mono fun _ => go⟩
    · exact ⟨_, rfl, (t01_12 ha hb hc).mono fun _ => go⟩
    · exact ⟨_, rfl, (t01_13 ha hb hc).mono fun _ => go⟩
    · exact ⟨_, rfl, (t01_14 ha hb hc).mono fun _ => go⟩
    · exact ⟨_, rfl, (t01_15 ha hb hc).mono fun _ => go⟩
    · exact ⟨_, rfl, (t01_16 ha hb hc).mono fun _ => go⟩
    · exact ⟨_, rfl, (t01_17 ha hb hc).mono fun _ => go⟩
    · exact ⟨_, rfl, (t01_18 ha hb hc).mono fun _ => go⟩
    · exact ⟨_, rfl, (t01_19 ha hb hc).mono fun _ => go⟩
    · exact ⟨_, rfl, (t01_20 ha hb hc).mono fun _ => go⟩
    · exact ⟨_, rfl, (t01_21 ha hb hc).mono fun _ => go⟩
    · exact ⟨_, rfl, (t01_22 ha hb hc).mono fun _ => go⟩
    · exact ⟨_, rfl, (t01_23 ha hb hc).mono fun _ => go⟩
    · exact ⟨_, rfl, (t01_24 ha hb hc).mono fun _ => go⟩
    · exact ⟨_, rfl, (t01_25 ha hb hc).mono fun _ => go⟩
    · exact ⟨_, rfl, (t01_26 ha hb hc).mono fun _ => go⟩
  · subst e
    exact wgs_ret (wv_same (wv_ret (x := .list (flds01 a b c)) (by kernel_rfl) (wv_ret (x := .list (flds01 a b c)) (by kernel_rfl) ⟨rfl, same01 ha hb hc⟩)) trivial)
theorem pure01 : (g_law (bagR 9)).wp Yes := law01.ok
end TM
namespace TM
open PySem PySem.Spec PyProof.Rows L2
theorem hfacts {w : World} {K : PySem.W.Frag} {h : Heap} {mg : Str → Option Value} {f : Addr} (X : K.In h) (G : h.Ns mainGlobals mg) (hlaw : mg ("law" : Str) = some (.ref f)) (cxw : SaysW hfa hfn hts htf hex her hcm w h K) :
    LamX.LawAtS PySem.Challenge.rw_tiedmoments_k01_errors_by_themselves w K CX0 6 63 "_law_script" mg f h := by
  have cx := cxw.v
  have c := cx.x.t
  obtain ⟨fd__law_draw, F__law_draw⟩ := c.d.def_ 0 (d := dd__law_draw) rfl
  obtain ⟨fd__law_of, F__law_of⟩ := c.d.def_ 1 (d := dd__law_of) rfl
  obtain ⟨fd__law_bag, F__law_bag⟩ := c.d.def_ 2 (d := dd__law_bag) rfl
  obtain ⟨fd__law_other_field, F__law_other_field⟩ := c.d.def_ 3 (d := dd__law_other_field) rfl
  obtain ⟨fd__law_field, F__law_field⟩ := c.d.def_ 4 (d := dd__law_field) rfl
  obtain ⟨fd__law_same, F__law_same⟩ := c.d.def_ 5 (d := dd__law_same) rfl
  obtain ⟨fd__law_odd, F__law_odd⟩ := c.d.def_ 6 (d := dd__law_odd) rfl
  obtain ⟨fd__law_made_errors, F__law_made_errors⟩ := c.d.def_ 7 (d := dd__law_made_errors) rfl
  obtain ⟨fd__law_named_errors, F__law_named_errors⟩ := c.d.def_ 8 (d := dd__law_named_errors) rfl
  obtain ⟨fd__law_kinds_of, F__law_kinds_of⟩ := c.d.def_ 9 (d := dd__law_kinds_of) rfl
  obtain ⟨fd__law_codes, F__law_codes⟩ := c.d.def_ 10 (d := dd__law_codes) rfl
  obtain ⟨fd_law, F_law⟩ := c.d.def_ 11 (d := dd_law) rfl
  have e := hlaw.symm.trans (He.glo_ok X G (c.d.fact 11 (f := .glo "law") rfl))
  cases e
  have T : Tx mg := { f_IndexError := He.free_ok X G (c.d.fact 12 (f := .free "IndexError") rfl), f_LookupError := He.free_ok X G (c.d.fact 13 (f := .free "LookupError") rfl), f_ValueError := He.free_ok X G (c.d.fact 14 (f := .free "ValueError") rfl), f_all := He.free_ok X G (c.d.fact 15 (f := .free "all") rfl), f_bool := He.free_ok X G (c.d.fact 16 (f := .free "bool") rfl), f_enumerate := He.free_ok X G (c.d.fact 17 (f := .free "enumerate") rfl), f_int := He.free_ok X G (c.d.fact 18 (f := .free "int") rfl), f_isinstance := He.free_ok X G (c.d.fact 19 (f := .free "isinstance") rfl), f_len := He.free_ok X G (c.d.fact 20 (f := .free "len") rfl), f_list := He.free_ok X G (c.d.fact 21 (f := .free "list") rfl), f_range := He.free_ok X G (c.d.fact 22 (f := .free "range") rfl), f_str := He.free_ok X G (c.d.fact 23 (f := .free "str") rfl), f_tuple := He.free_ok X G (c.d.fact 25 (f := .free "tuple") rfl), f_zip := He.free_ok X G (c.d.fact 26 (f := .free "zip") rfl) }
  have hx0 := cx.x.more
  obtain ⟨hy0, hx1⟩ := He.ba hx0
  obtain ⟨hy1, hx2⟩ := He.ba hx1
  obtain ⟨hy2, hx3⟩ := He.ba hx2
  obtain ⟨hy3, hx4⟩ := He.ba hx3
  obtain ⟨hy4, hx5⟩ := He.ba hx4
  obtain ⟨hy5, hx6⟩ := He.ba hx5
  obtain ⟨hy6, hx7⟩ := He.ba hx6
  obtain ⟨hy7, hx8⟩ := He.ba hx7
  obtain ⟨hy8, hx9⟩ := He.ba hx8
  obtain ⟨hy9, hx10⟩ := He.ba hx9
  obtain ⟨hy10, hx11⟩ := He.ba hx10
  obtain ⟨hy11, hx12⟩ := He.ba hx11
  obtain ⟨hy12, hx13⟩ := He.ba hx12
  obtain ⟨hy13, hx14⟩ := He.ba hx13
  obtain ⟨hy14, hx15⟩ := He.ba hx14
  obtain ⟨hy15, hx16⟩ := He.ba hx15
  obtain ⟨hy16, hx17⟩ := He.ba hx16
  obtain ⟨hy17, hx18⟩ := He.ba hx17
  obtain ⟨hy18, hx19⟩ := He.ba hx18
  obtain ⟨hy19, hx20⟩ := He.ba hx19
  obtain ⟨hy20, hx21⟩ := He.ba hx20
  obtain ⟨hy21, hx22⟩ := He.ba hx21
  obtain ⟨hy22, hx23⟩ := He.ba hx22
  obtain ⟨hy23, hx24⟩ := He.ba hx23
  obtain ⟨hy24, hx25⟩ := He.ba hx24
  obtain ⟨hy25, hx26⟩ := He.ba hx25
  obtain ⟨hy26, hx27⟩ := He.ba hx26
  obtain ⟨hy27, hx28⟩ := He.ba hx27
  obtain ⟨hy28, hx29⟩ := He.ba hx28
  obtain ⟨hy29, hx30⟩ := He.ba hx29
  obtain ⟨hy30, hx31⟩ := He.ba hx30
  obtain ⟨hy31, hx32⟩ := He.ba hx31
  obtain ⟨hy32, hx33⟩ := He.ba hx32
  obtain ⟨hy33, hx34⟩ := He.ba hx33
  obtain ⟨hy34, hx35⟩ := He.ba hx34
  obtain ⟨hy35, hx36⟩ := He.ba hx35
  obtain ⟨hy36, hx37⟩ := He.ba hx36
  obtain ⟨hy37, hx38⟩ := He.ba hx37
  obtain ⟨hy38, hx39⟩ := He.ba hx38
  obtain ⟨hy39, hx40⟩ := He.ba hx39
  obtain ⟨hy40, hx41⟩ := He.ba hx40
  obtain ⟨hy41, hx42⟩ := He.ba hx41
  obtain ⟨hy42, hx43⟩ := He.ba hx42
  obtain ⟨hy43, hx44⟩ := He.ba hx43
  obtain ⟨hy44, hx45⟩ := He.ba hx44
  obtain ⟨hy45, hx46⟩ := He.ba hx45
  obtain ⟨hy46, hx47⟩ := He.ba hx46
  obtain ⟨hy47, hx48⟩ := He.ba hx47
  obtain ⟨hy48, hx49⟩ := He.ba hx48
  obtain ⟨hy49, hx50⟩ := He.ba hx49
  obtain ⟨hy50, hx51⟩ := He.ba hx50
  obtain ⟨hy51, hx52⟩ := He.ba hx51
  obtain ⟨hy52, hx53⟩ := He.ba hx52
  obtain ⟨hy53, hx54⟩ := He.ba hx53
  obtain ⟨hy54, hx55⟩ := He.ba hx54
  obtain ⟨hy55, hx56⟩ := He.ba hx55
  obtain ⟨hy56, hx57⟩ := He.ba hx56
  obtain ⟨hy57, hx58⟩ := He.ba hx57
  obtain ⟨hy58, hx59⟩ := He.ba hx58
  obtain ⟨hy59, hx60⟩ := He.ba hx59
  obtain ⟨hy60, hx61⟩ := He.ba hx60
  obtain ⟨hy61, hx62⟩ := He.ba hx61
  obtain ⟨hy62, hx63⟩ := He.ba hx62
  obtain ⟨hy63, hx64⟩ := He.ba hx63
  obtain ⟨hy64, hx65⟩ := He.ba hx64
  obtain ⟨hy65, hx66⟩ := He.ba hx65
  obtain ⟨hy66, hx67⟩ := He.ba hx66
  obtain ⟨hy67, hx68⟩ := He.ba hx67
  obtain ⟨hy68, hx69⟩ := He.ba hx68
  obtain ⟨hy69, hx70⟩ := He.ba hx69
  obtain ⟨hy70, hx71⟩ := He.ba hx70
  obtain ⟨hy71, hx72⟩ := He.ba hx71
  obtain ⟨hy72, hx73⟩ := He.ba hx72
  obtain ⟨hy73, hx74⟩ := He.ba hx73
  obtain ⟨hy74, hx75⟩ := He.ba hx74
  obtain ⟨hy75, hx76⟩ := He.ba hx75
  obtain ⟨hy76, hx77⟩ := He.ba hx76
  obtain ⟨hy77, hx78⟩ := He.ba hx77
  obtain ⟨hy78, hx79⟩ := He.ba hx78
  obtain ⟨hy79, hx80⟩ := He.ba hx79
  obtain ⟨hy80, hx81⟩ := He.ba hx80
  obtain ⟨hy81, hx82⟩ := He.ba hx81
  obtain ⟨hy82, hx83⟩ := He.ba hx82
  obtain ⟨hy83, hx84⟩ := He.ba hx83
  obtain ⟨hy84, hx85⟩ := He.ba hx84
  obtain ⟨hy85, hx86⟩ := He.ba hx85
  obtain ⟨hy86, hx87⟩ := He.ba hx86
  obtain ⟨hy87, hx88⟩ := He.ba hx87
  obtain ⟨hy88, hx89⟩ := He.ba hx88
  obtain ⟨hy89, hx90⟩ := He.ba hx89
  obtain ⟨hy90, hx91⟩ := He.ba hx90
  obtain ⟨hy91, hx92⟩ := He.ba hx91
  obtain ⟨hy92, hx93⟩ := He.ba hx92
  obtain ⟨hy93, hx94⟩ := He.ba hx93
  obtain ⟨hy94, hx95⟩ := He.ba hx94
  obtain ⟨hy95, hx96⟩ := He.ba hx95
  obtain ⟨hy96, hx97⟩ := He.ba hx96
  obtain ⟨hy97, hx98⟩ := He.ba hx97
  have hgl : ∀ c ∈ herrs, mg c = some (.ref (He.ga K c)) := fun c hc => He.glo_ok X G (List.all_eq_true.mp hy0 c hc)
  have su : mg "super" = none := He.free_ok X G (c.d.fact 24 (f := .free "super") rfl)
  have EF_at : EFok K mg (ETL "at") "at" := efok_of (at_ := He.ga K) (fun c hc => hgl c ((by decide +kernel : ∀ c ∈ ETL "at", c ∈ herrs) c hc)) hy82
  have EF_block : EFok K mg (ETL "block") "block" := efok_of (at_ := He.ga K) (fun c hc => hgl c ((by decide +kernel : ∀ c ∈ ETL "block", c ∈ herrs) c hc)) hy83
  have EF_code : EFok K mg (ETL "code") "code" := efok_of (at_ := He.ga K) (fun c hc => hgl c ((by decide +kernel : ∀ c ∈ ETL "code", c ∈ herrs) c hc)) hy84
  have EF_index : EFok K mg (ETL "index") "index" := efok_of (at_ := He.ga K) (fun c hc => hgl c ((by decide +kernel : ∀ c ∈ ETL "index", c ∈ herrs) c hc)) hy85
  have EF_limit : EFok K mg (ETL "limit") "limit" := efok_of (at_ := He.ga K) (fun c hc => hgl c ((by decide +kernel : ∀ c ∈ ETL "limit", c ∈ herrs) c hc)) hy86
  have EF_line : EFok K mg (ETL "line") "line" := efok_of (at_ := He.ga K) (fun c hc => hgl c ((by decide +kernel : ∀ c ∈ ETL "line", c ∈ herrs) c hc)) hy87
  have EF_message : EFok K mg (ETL "message") "message" := efok_of (at_ := He.ga K) (fun c hc => hgl c ((by decide +kernel : ∀ c ∈ ETL "message", c ∈ herrs) c hc)) hy88
  have EF_most : EFok K mg (ETL "most") "most" := efok_of (at_ := He.ga K) (fun c hc => hgl c ((by decide +kernel : ∀ c ∈ ETL "most", c ∈ herrs) c hc)) hy89
  have EF_name : EFok K mg (ETL "name") "name" := efok_of (at_ := He.ga K) (fun c hc => hgl c ((by decide +kernel : ∀ c ∈ ETL "name", c ∈ herrs) c hc)) hy90
  have EF_one : EFok K mg (ETL "one") "one" := efok_of (at_ := He.ga K) (fun c hc => hgl c ((by decide +kernel : ∀ c ∈ ETL "one", c ∈ herrs) c hc)) hy91
  have EF_other : EFok K mg (ETL "other") "other" := efok_of (at_ := He.ga K) (fun c hc => hgl c ((by decide +kernel : ∀ c ∈ ETL "other", c ∈ herrs) c hc)) hy92
  have EF_process : EFok K mg (ETL "process") "process" := efok_of (at_ := He.ga K) (fun c hc => hgl c ((by decide +kernel : ∀ c ∈ ETL "process", c ∈ herrs) c hc)) hy93
  have EF_step : EFok K mg (ETL "step") "step" := efok_of (at_ := He.ga K) (fun c hc => hgl c ((by decide +kernel : ∀ c ∈ ETL "step", c ∈ herrs) c hc)) hy94
  have EF_subject : EFok K mg (ETL "subject") "subject" := efok_of (at_ := He.ga K) (fun c hc => hgl c ((by decide +kernel : ∀ c ∈ ETL "subject", c ∈ herrs) c hc)) hy95
  have EF_value : EFok K mg (ETL "value") "value" := efok_of (at_ := He.ga K) (fun c hc => hgl c ((by decide +kernel : ∀ c ∈ ETL "value", c ∈ herrs) c hc)) hy96
  have NM_DuplicateMessage : mg "DuplicateMessage" = some (.ref (He.ga K "DuplicateMessage")) := hgl "DuplicateMessage" (by decide +kernel)
  have NM_DuplicateName : mg "DuplicateName" = some (.ref (He.ga K "DuplicateName")) := hgl "DuplicateName" (by decide +kernel)
  have NM_EmptyLot : mg "EmptyLot" = some (.ref (He.ga K "EmptyLot")) := hgl "EmptyLot" (by decide +kernel)
  have NM_Full : mg "Full" = some (.ref (He.ga K "Full")) := hgl "Full" (by decide +kernel)
  have NM_InvalidClause : mg "InvalidClause" = some (.ref (He.ga K "InvalidClause")) := hgl "InvalidClause" (by decide +kernel)
  have NM_InvalidCommand : mg "InvalidCommand" = some (.ref (He.ga K "InvalidCommand")) := hgl "InvalidCommand" (by decide +kernel)
  have NM_InvalidLimit : mg "InvalidLimit" = some (.ref (He.ga K "InvalidLimit")) := hgl "InvalidLimit" (by decide +kernel)
  have NM_InvalidMoment : mg "InvalidMoment" = some (.ref (He.ga K "InvalidMoment")) := hgl "InvalidMoment" (by decide +kernel)
  have NM_InvalidName : mg "InvalidName" = some (.ref (He.ga K "InvalidName")) := hgl "InvalidName" (by decide +kernel)
  have NM_InvalidNumber : mg "InvalidNumber" = some (.ref (He.ga K "InvalidNumber")) := hgl "InvalidNumber" (by decide +kernel)
  have NM_InvalidPage : mg "InvalidPage" = some (.ref (He.ga K "InvalidPage")) := hgl "InvalidPage" (by decide +kernel)
  have NM_InvalidPoint : mg "InvalidPoint" = some (.ref (He.ga K "InvalidPoint")) := hgl "InvalidPoint" (by decide +kernel)
  have NM_InvalidRow : mg "InvalidRow" = some (.ref (He.ga K "InvalidRow")) := hgl "InvalidRow" (by decide +kernel)
  have NM_InvalidStep : mg "InvalidStep" = some (.ref (He.ga K "InvalidStep")) := hgl "InvalidStep" (by decide +kernel)
  have NM_InvalidTests : mg "InvalidTests" = some (.ref (He.ga K "InvalidTests")) := hgl "InvalidTests" (by decide +kernel)
  have NM_InvalidText : mg "InvalidText" = some (.ref (He.ga K "InvalidText")) := hgl "InvalidText" (by decide +kernel)
  have NM_InvalidWeights : mg "InvalidWeights" = some (.ref (He.ga K "InvalidWeights")) := hgl "InvalidWeights" (by decide +kernel)
  have NM_LogError : mg "LogError" = some (.ref (He.ga K "LogError")) := hgl "LogError" (by decide +kernel)
  have NM_Missing : mg "Missing" = some (.ref (He.ga K "Missing")) := hgl "Missing" (by decide +kernel)
  have NM_NothingLeft : mg "NothingLeft" = some (.ref (He.ga K "NothingLeft")) := hgl "NothingLeft" (by decide +kernel)
  have NM_Parted : mg "Parted" = some (.ref (He.ga K "Parted")) := hgl "Parted" (by decide +kernel)
  have NM_Ring : mg "Ring" = some (.ref (He.ga K "Ring")) := hgl "Ring" (by decide +kernel)
  have NM_TooMany : mg "TooMany" = some (.ref (He.ga K "TooMany")) := hgl "TooMany" (by decide +kernel)
  have NM_Uneven : mg "Uneven" = some (.ref (He.ga K "Uneven")) := hgl "Uneven" (by decide +kernel)
  have NM_UnknownName : mg "UnknownName" = some (.ref (He.ga K "UnknownName")) := hgl "UnknownName" (by decide +kernel)
  have NM_UnknownProcess : mg "UnknownProcess" = some (.ref (He.ga K "UnknownProcess")) := hgl "UnknownProcess" (by decide +kernel)
  have NM_UnknownStep : mg "UnknownStep" = some (.ref (He.ga K "UnknownStep")) := hgl "UnknownStep" (by decide +kernel)
  have NM_UnlikeLogs : mg "UnlikeLogs" = some (.ref (He.ga K "UnlikeLogs")) := hgl "UnlikeLogs" (by decide +kernel)
  have NM_Unsent : mg "Unsent" = some (.ref (He.ga K "Unsent")) := hgl "Unsent" (by decide +kernel)
  have b := FunD.bindsA (ps := ["_law_script"]) F_law fun _ _ _ _ _ _ us hl => match us, hl with | [_], _ => rfl
  refine ⟨fd_law, [], spLaw K, fun p hp => (by cases hp), fun p hp => (by cases hp), fun p hp => (by cases hp), fun s v => b s [v] rfl, fun H a ns hl _ _ hS => ⟨a, ns, rfl, hS, fun _ => rfl⟩, fun base _ _ _ => ?_⟩
  have IE_DuplicateMessage : IsEf K mg ALLE (isAL "DuplicateMessage") (.ref (He.ga K "DuplicateMessage")) := ieB_own hy97 (fun c hc => hgl c ((by decide +kernel : ∀ c ∈ ALLE, c ∈ herrs) c hc)) (by decide +kernel)
  have IE_DuplicateName : IsEf K mg ALLE (isAL "DuplicateName") (.ref (He.ga K "DuplicateName")) := ieB_own hy97 (fun c hc => hgl c ((by decide +kernel : ∀ c ∈ ALLE, c ∈ herrs) c hc)) (by decide +kernel)
  have IE_EmptyLot : IsEf K mg ALLE (isAL "EmptyLot") (.ref (He.ga K "EmptyLot")) := ieB_own hy97 (fun c hc => hgl c ((by decide +kernel : ∀ c ∈ ALLE, c ∈ herrs) c hc)) (by decide +kernel)
  have IE_Full : IsEf K mg ALLE (isAL "Full") (.ref (He.ga K "Full")) := ieB_own hy97 (fun c hc => hgl c ((by decide +kernel : ∀ c ∈ ALLE, c ∈ herrs) c hc)) (by decide +kernel)
  have IE_IndexError : IsEf K mg ALLE (isAL "IndexError") (.type "IndexError") := ieB_blt hy97 (fun c hc => hgl c ((by decide +kernel : ∀ c ∈ ALLE, c ∈ herrs) c hc)) (by decide +kernel)
  have IE_InvalidClause : IsEf K mg ALLE (isAL "InvalidClause") (.ref (He.ga K "InvalidClause")) := ieB_own hy97 (fun c hc => hgl c ((by decide +kernel : ∀ c ∈ ALLE, c ∈ herrs) c hc)) (by decide +kernel)
  have IE_InvalidCommand : IsEf K mg ALLE (isAL "InvalidCommand") (.ref (He.ga K "InvalidCommand")) := ieB_own hy97 (fun c hc => hgl c ((by decide +kernel : ∀ c ∈ ALLE, c ∈ herrs) c hc)) (by decide +kernel)
  have IE_InvalidLimit : IsEf K mg ALLE (isAL "InvalidLimit") (.ref (He.ga K "InvalidLimit")) := ieB_own hy97 (fun c hc => hgl c ((by decide +kernel : ∀ c ∈ ALLE, c ∈ herrs) c hc)) (by decide +kernel)
  have IE_InvalidMoment : IsEf K mg ALLE (isAL "InvalidMoment") (.ref (He.ga K "InvalidMoment")) := ieB_own hy97 (fun c hc => hgl c ((by decide +kernel : ∀ c ∈ ALLE, c ∈ herrs) c hc)) (by decide +kernel)
  have IE_InvalidName : IsEf K mg ALLE (isAL "InvalidName") (.ref (He.ga K "InvalidName")) := ieB_own hy97 (fun c hc => hgl c ((by decide +kernel : ∀ c ∈ ALLE, c ∈ herrs) c hc)) (by decide +kernel)
  have IE_InvalidNumber : IsEf K mg ALLE (isAL "InvalidNumber") (.ref (He.ga K "InvalidNumber")) := ieB_own hy97 (fun c hc => hgl c ((by decide +kernel : ∀ c ∈ ALLE, c ∈ herrs) c hc)) (by decide +kernel)
  have IE_InvalidPage : IsEf K mg ALLE (isAL "InvalidPage") (.ref (He.ga K "InvalidPage")) := ieB_own hy97 (fun c hc => hgl c ((by decide +kernel : ∀ c ∈ ALLE, c ∈ herrs) c hc)) (by decide +kernel)
  have IE_InvalidPoint : IsEf K mg ALLE (isAL "InvalidPoint") (.ref (He.ga K "InvalidPoint")) := ieB_own hy97 (fun c hc => hgl c ((by decide +kernel : ∀ c ∈ ALLE, c ∈ herrs) c hc)) (by decide +kernel)
  have IE_InvalidRow : IsEf K mg ALLE (isAL "InvalidRow") (.ref (He.ga K "InvalidRow")) := ieB_own hy97 (fun c hc => hgl c ((by decide +kernel : ∀ c ∈ ALLE, c ∈ herrs) c hc)) (by decide +kernel)
  have IE_InvalidStep : IsEf K mg ALLE (isAL "InvalidStep") (.ref (He.ga K "InvalidStep")) := ieB_own hy97 (fun c hc => hgl c ((by decide +kernel : ∀ c ∈ ALLE, c ∈ herrs) c hc)) (by decide +kernel)
  have IE_InvalidTests : IsEf K mg ALLE (isAL "InvalidTests") (.ref (He.ga K "InvalidTests")) := ieB_own hy97 (fun c hc => hgl c ((by decide +kernel : ∀ c ∈ ALLE, c ∈ herrs) c hc)) (by decide +kernel)
  have IE_InvalidText : IsEf K mg ALLE (isAL "InvalidText") (.ref (He.ga K "InvalidText")) := ieB_own hy97 (fun c hc => hgl c ((by decide +kernel : ∀ c ∈ ALLE, c ∈ herrs) c hc)) (by decide +kernel)
  have IE_InvalidWeights : IsEf K mg ALLE (isAL "InvalidWeights") (.ref (He.ga K "InvalidWeights")) := ieB_own hy97 (fun c hc => hgl c ((by decide +kernel : ∀ c ∈ ALLE, c ∈ herrs) c hc)) (by decide +kernel)
  have IE_LogError : IsEf K mg ALLE (isAL "LogError") (.ref (He.ga K "LogError")) := ieB_own hy97 (fun c hc => hgl c ((by decide +kernel : ∀ c ∈ ALLE, c ∈ herrs) c hc)) (by decide +kernel)
  have IE_LookupError : IsEf K mg ALLE (isAL "LookupError") (.type "LookupError") := ieB_blt hy97 (fun c hc => hgl c ((by decide +kernel : ∀ c ∈ ALLE, c ∈ herrs) c hc)) (by decide +kernel)
  have IE_Missing : IsEf K mg ALLE (isAL "Missing") (.ref (He.ga K "Missing")) := ieB_own hy97 (fun c hc => hgl c ((by decide +kernel : ∀ c ∈ ALLE, c ∈ herrs) c hc)) (by decide +kernel)
  have IE_NothingLeft : IsEf K mg ALLE (isAL "NothingLeft") (.ref (He.ga K "NothingLeft")) := ieB_own hy97 (fun c hc => hgl c ((by decide +kernel : ∀ c ∈ ALLE, c ∈ herrs) c hc)) (by decide +kernel)
  have IE_Parted : IsEf K mg ALLE (isAL "Parted") (.ref (He.ga K "Parted")) := ieB_own hy97 (fun c hc => hgl c ((by decide +kernel : ∀ c ∈ ALLE, c ∈ herrs) c hc)) (by decide +kernel)
  have IE_Ring : IsEf K mg ALLE (isAL "Ring") (.ref (He.ga K "Ring")) := ieB_own hy97 (fun c hc => hgl c ((by decide +kernel : ∀ c ∈ ALLE, c ∈ herrs) c hc)) (by decide +kernel)
  have IE_TooMany : IsEf K mg ALLE (isAL "TooMany") (.ref (He.ga K "TooMany")) := ieB_own hy97 (fun c hc => hgl c ((by decide +kernel : ∀ c ∈ ALLE, c ∈ herrs) c hc)) (by decide +kernel)
  have IE_Uneven : IsEf K mg ALLE (isAL "Uneven") (.ref (He.ga K "Uneven")) := ieB_own hy97 (fun c hc => hgl c ((by decide +kernel : ∀ c ∈ ALLE, c ∈ herrs) c hc)) (by decide +kernel)
  have IE_UnknownName : IsEf K mg ALLE (isAL "UnknownName") (.ref (He.ga K "UnknownName")) := ieB_own hy97 (fun c hc => hgl c ((by decide +kernel : ∀ c ∈ ALLE, c ∈ herrs) c hc)) (by decide +kernel)
  have IE_UnknownProcess : IsEf K mg ALLE (isAL "UnknownProcess") (.ref (He.ga K "UnknownProcess")) := ieB_own hy97 (fun c hc => hgl c ((by decide +kernel : ∀ c ∈ ALLE, c ∈ herrs) c hc)) (by decide +kernel)
  have IE_UnknownStep : IsEf K mg ALLE (isAL "UnknownStep") (.ref (He.ga K "UnknownStep")) := ieB_own hy97 (fun c hc => hgl c ((by decide +kernel : ∀ c ∈ ALLE, c ∈ herrs) c hc)) (by decide +kernel)
  have IE_UnlikeLogs : IsEf K mg ALLE (isAL "UnlikeLogs") (.ref (He.ga K "UnlikeLogs")) := ieB_own hy97 (fun c hc => hgl c ((by decide +kernel : ∀ c ∈ ALLE, c ∈ herrs) c hc)) (by decide +kernel)
  have IE_Unsent : IsEf K mg ALLE (isAL "Unsent") (.ref (He.ga K "Unsent")) := ieB_own hy97 (fun c hc => hgl c ((by decide +kernel : ∀ c ∈ ALLE, c ∈ herrs) c hc)) (by decide +kernel)
  have IE_ValueError : IsEf K mg ALLE (isAL "ValueError") (.type "ValueError") := ieB_blt hy97 (fun c hc => hgl c ((by decide +kernel : ∀ c ∈ ALLE, c ∈ herrs) c hc)) (by decide +kernel)
  have ER_InvalidName : Er (PySem.Challenge.rw_tiedmoments_k01_errors_by_themselves).prog w K mg base 1 "InvalidName" "InvalidName" ["value"] (He.ga K "InvalidName") := is_InvalidName (file := hfile) (by kernel_rfl) (by kernel_rfl) (hgl "InvalidName" (by decide +kernel)) su hy1 hy2 hy3 (cx.er 0 rfl)
  have EK_InvalidName_value : ErK (PySem.Challenge.rw_tiedmoments_k01_errors_by_themselves).prog w K mg base 1 "InvalidName" "InvalidName" ["value"] (He.ga K "InvalidName") ["value"] [0] := ik_InvalidName_value (file := hfile) (by kernel_rfl) (by kernel_rfl) (hgl "InvalidName" (by decide +kernel)) su hy1 hy2 hy3 (cx.er 0 rfl)
  have ER_InvalidRow : Er (PySem.Challenge.rw_tiedmoments_k01_errors_by_themselves).prog w K mg base 1 "InvalidRow" "InvalidRow" ["at"] (He.ga K "InvalidRow") := is_InvalidRow (file := hfile) (by kernel_rfl) (by kernel_rfl) (hgl "InvalidRow" (by decide +kernel)) su hy4 hy5 hy6 (cx.er 1 rfl)
  have EK_InvalidRow_at : ErK (PySem.Challenge.rw_tiedmoments_k01_errors_by_themselves).prog w K mg base 1 "InvalidRow" "InvalidRow" ["at"] (He.ga K "InvalidRow") ["at"] [0] := ik_InvalidRow_at (file := hfile) (by kernel_rfl) (by kernel_rfl) (hgl "InvalidRow" (by decide +kernel)) su hy4 hy5 hy6 (cx.er 1 rfl)
  have ER_DuplicateName : Er (PySem.Challenge.rw_tiedmoments_k01_errors_by_themselves).prog w K mg base 1 "DuplicateName" "DuplicateName" ["name"] (He.ga K "DuplicateName") := is_DuplicateName (file := hfile) (by kernel_rfl) (by kernel_rfl) (hgl "DuplicateName" (by decide +kernel)) su hy7 hy8 hy9 (cx.er 2 rfl)
  have EK_DuplicateName_name : ErK (PySem.Challenge.rw_tiedmoments_k01_errors_by_themselves).prog w K mg base 1 "DuplicateName" "DuplicateName" ["name"] (He.ga K "DuplicateName") ["name"] [0] := ik_DuplicateName_name (file := hfile) (by kernel_rfl) (by kernel_rfl) (hgl "DuplicateName" (by decide +kernel)) su hy7 hy8 hy9 (cx.er 2 rfl)
  have ER_InvalidStep : Er (PySem.Challenge.rw_tiedmoments_k01_errors_by_themselves).prog w K mg base 1 "InvalidStep" "InvalidStep" ["process", "index"] (He.ga K "InvalidStep") := is_InvalidStep (file := hfile) (by kernel_rfl) (by kernel_rfl) (hgl "InvalidStep" (by decide +kernel)) su hy10 hy11 hy12 (cx.er 3 rfl)
  have EK_InvalidStep_index_process : ErK (PySem.Challenge.rw_tiedmoments_k01_errors_by_themselves).prog w K mg base 1 "InvalidStep" "InvalidStep" ["process", "index"] (He.ga K "InvalidStep") ["index", "process"] [1, 0] := ik_InvalidStep_index_process (file := hfile) (by kernel_rfl) (by kernel_rfl) (hgl "InvalidStep" (by decide +kernel)) su hy10 hy11 hy12 (cx.er 3 rfl)
  have ER_DuplicateMessage : Er (PySem.Challenge.rw_tiedmoments_k01_errors_by_themselves).prog w K mg base 1 "DuplicateMessage" "DuplicateMessage" ["message"] (He.ga K "DuplicateMessage") := is_DuplicateMessage (file := hfile) (by kernel_rfl) (by kernel_rfl) (hgl "DuplicateMessage" (by decide +kernel)) su hy13 hy14 hy15 (cx.er 4 rfl)
  have EK_DuplicateMessage_message : ErK (PySem.Challenge.rw_tiedmoments_k01_errors_by_themselves).prog w K mg base 1 "DuplicateMessage" "DuplicateMessage" ["message"] (He.ga K "DuplicateMessage") ["message"] [0] := ik_DuplicateMessage_message (file := hfile) (by kernel_rfl) (by kernel_rfl) (hgl "DuplicateMessage" (by decide +kernel)) su hy13 hy14 hy15 (cx.er 4 rfl)
  have ER_Unsent : Er (PySem.Challenge.rw_tiedmoments_k01_errors_by_themselves).prog w K mg base 1 "Unsent" "Unsent" ["message"] (He.ga K "Unsent") := is_Unsent (file := hfile) (by kernel_rfl) (by kernel_rfl) (hgl "Unsent" (by decide +kernel)) su hy16 hy17 hy18 (cx.er 5 rfl)
  have EK_Unsent_message : ErK (PySem.Challenge.rw_tiedmoments_k01_errors_by_themselves).prog w K mg base 1 "Unsent" "Unsent" ["message"] (He.ga K "Unsent") ["message"] [0] := ik_Unsent_message (file := hfile) (by kernel_rfl) (by kernel_rfl) (hgl "Unsent" (by decide +kernel)) su hy16 hy17 hy18 (cx.er 5 rfl)
  have ER_Ring : Er (PySem.Challenge.rw_tiedmoments_k01_errors_by_themselves).prog w K mg base 1 "Ring" "Ring" ["process"] (He.ga K "Ring") := is_Ring (file := hfile) (by kernel_rfl) (by kernel_rfl) (hgl "Ring" (by decide +kernel)) su hy19 hy20 hy21 (cx.er 6 rfl)
  have EK_Ring_process : ErK (PySem.Challenge.rw_tiedmoments_k01_errors_by_themselves).prog w K mg base 1 "Ring" "Ring" ["process"] (He.ga K "Ring") ["process"] [0] := ik_Ring_process (file := hfile) (by kernel_rfl) (by kernel_rfl) (hgl "Ring" (by decide +kernel)) su hy19 hy20 hy21 (cx.er 6 rfl)
  have ER_TooMany : Er (PySem.Challenge.rw_tiedmoments_k01_errors_by_themselves).prog w K mg base 1 "TooMany" "TooMany" ["subject", "most"] (He.ga K "TooMany") := is_TooMany (file := hfile) (by kernel_rfl) (by kernel_rfl) (hgl "TooMany" (by decide +kernel)) su hy22 hy23 hy24 (cx.er 7 rfl)
  have EK_TooMany_most_subject : ErK (PySem.Challenge.rw_tiedmoments_k01_errors_by_themselves).prog w K mg base 1 "TooMany" "TooMany" ["subject", "most"] (He.ga K "TooMany") ["most", "subject"] [1, 0] := ik_TooMany_most_subject (file := hfile) (by kernel_rfl) (by kernel_rfl) (hgl "TooMany" (by decide +kernel)) su hy22 hy23 hy24 (cx.er 7 rfl)
  have ER_InvalidPoint : Er (PySem.Challenge.rw_tiedmoments_k01_errors_by_themselves).prog w K mg base 1 "InvalidPoint" "InvalidPoint" ["value"] (He.ga K "InvalidPoint") := is_InvalidPoint (file := hfile) (by kernel_rfl) (by kernel_rfl) (hgl "InvalidPoint" (by decide +kernel)) su hy25 hy26 hy27 (cx.er 8 rfl)
  have EK_InvalidPoint_value : ErK (PySem.Challenge.rw_tiedmoments_k01_errors_by_themselves).prog w K mg base 1 "InvalidPoint" "InvalidPoint" ["value"] (He.ga K "InvalidPoint") ["value"] [0] := ik_InvalidPoint_value (file := hfile) (by kernel_rfl) (by kernel_rfl) (hgl "InvalidPoint" (by decide +kernel)) su hy25 hy26 hy27 (cx.er 8 rfl)
  have ER_InvalidMoment : Er (PySem.Challenge.rw_tiedmoments_k01_errors_by_themselves).prog w K mg base 1 "InvalidMoment" "InvalidMoment" ["value"] (He.ga K "InvalidMoment") := is_InvalidMoment (file := hfile) (by kernel_rfl) (by kernel_rfl) (hgl "InvalidMoment" (by decide +kernel)) su hy28 hy29 hy30 (cx.er 9 rfl)
  have EK_InvalidMoment_value : ErK (PySem.Challenge.rw_tiedmoments_k01_errors_by_themselves).prog w K mg base 1 "InvalidMoment" "InvalidMoment" ["value"] (He.ga K "InvalidMoment") ["value"] [0] := ik_InvalidMoment_value (file := hfile) (by kernel_rfl) (by kernel_rfl) (hgl "InvalidMoment" (by decide +kernel)) su hy28 hy29 hy30 (cx.er 9 rfl)
  have ER_InvalidClause : Er (PySem.Challenge.rw_tiedmoments_k01_errors_by_themselves).prog w K mg base 1 "InvalidClause" "InvalidClause" ["at"] (He.ga K "InvalidClause") := is_InvalidClause (file := hfile) (by kernel_rfl) (by kernel_rfl) (hgl "InvalidClause" (by decide +kernel)) su hy31 hy32 hy33 (cx.er 10 rfl)
  have EK_InvalidClause_at : ErK (PySem.Challenge.rw_tiedmoments_k01_errors_by_themselves).prog w K mg base 1 "InvalidClause" "InvalidClause" ["at"] (He.ga K "InvalidClause") ["at"] [0] := ik_InvalidClause_at (file := hfile) (by kernel_rfl) (by kernel_rfl) (hgl "InvalidClause" (by decide +kernel)) su hy31 hy32 hy33 (cx.er 10 rfl)
  have ER_Parted : Er (PySem.Challenge.rw_tiedmoments_k01_errors_by_themselves).prog w K mg base 1 "Parted" "Parted" ["at", "one", "other"] (He.ga K "Parted") := is_Parted (file := hfile) (by kernel_rfl) (by kernel_rfl) (hgl "Parted" (by decide +kernel)) su hy34 hy35 hy36 (cx.er 11 rfl)
  have EK_Parted_other_one_at : ErK (PySem.Challenge.rw_tiedmoments_k01_errors_by_themselves).prog w K mg base 1 "Parted" "Parted" ["at", "one", "other"] (He.ga K "Parted") ["other", "one", "at"] [2, 1, 0] := ik_Parted_other_one_at (file := hfile) (by kernel_rfl) (by kernel_rfl) (hgl "Parted" (by decide +kernel)) su hy34 hy35 hy36 (cx.er 11 rfl)
  have ER_UnlikeLogs : Er (PySem.Challenge.rw_tiedmoments_k01_errors_by_themselves).prog w K mg base 1 "UnlikeLogs" "UnlikeLogs" [] (He.ga K "UnlikeLogs") := is_UnlikeLogs (file := hfile) (by kernel_rfl) (by kernel_rfl) (hgl "UnlikeLogs" (by decide +kernel)) su hy37 hy38 hy39 (cx.er 12 rfl)
  have ER_EmptyLot : Er (PySem.Challenge.rw_tiedmoments_k01_errors_by_themselves).prog w K mg base 1 "EmptyLot" "EmptyLot" [] (He.ga K "EmptyLot") := is_EmptyLot (file := hfile) (by kernel_rfl) (by kernel_rfl) (hgl "EmptyLot" (by decide +kernel)) su hy40 hy41 hy42 (cx.er 13 rfl)
  have ER_InvalidNumber : Er (PySem.Challenge.rw_tiedmoments_k01_errors_by_themselves).prog w K mg base 1 "InvalidNumber" "InvalidNumber" ["value"] (He.ga K "InvalidNumber") := is_InvalidNumber (file := hfile) (by kernel_rfl) (by kernel_rfl) (hgl "InvalidNumber" (by decide +kernel)) su hy43 hy44 hy45 (cx.er 14 rfl)
  have EK_InvalidNumber_value : ErK (PySem.Challenge.rw_tiedmoments_k01_errors_by_themselves).prog w K mg base 1 "InvalidNumber" "InvalidNumber" ["value"] (He.ga K "InvalidNumber") ["value"] [0] := ik_InvalidNumber_value (file := hfile) (by kernel_rfl) (by kernel_rfl) (hgl "InvalidNumber" (by decide +kernel)) su hy43 hy44 hy45 (cx.er 14 rfl)
  have ER_InvalidWeights : Er (PySem.Challenge.rw_tiedmoments_k01_errors_by_themselves).prog w K mg base 1 "InvalidWeights" "InvalidWeights" [] (He.ga K "InvalidWeights") := is_InvalidWeights (file := hfile) (by kernel_rfl) (by kernel_rfl) (hgl "InvalidWeights" (by decide +kernel)) su hy46 hy47 hy48 (cx.er 15 rfl)
  have ER_Uneven : Er (PySem.Challenge.rw_tiedmoments_k01_errors_by_themselves).prog w K mg base 1 "Uneven" "Uneven" ["block"] (He.ga K "Uneven") := is_Uneven (file := hfile) (by kernel_rfl) (by kernel_rfl) (hgl "Uneven" (by decide +kernel)) su hy49 hy50 hy51 (cx.er 16 rfl)
  have EK_Uneven_block : ErK (PySem.Challenge.rw_tiedmoments_k01_errors_by_themselves).prog w K mg base 1 "Uneven" "Uneven" ["block"] (He.ga K "Uneven") ["block"] [0] := ik_Uneven_block (file := hfile) (by kernel_rfl) (by kernel_rfl) (hgl "Uneven" (by decide +kernel)) su hy49 hy50 hy51 (cx.er 16 rfl)
  have ER_InvalidTests : Er (PySem.Challenge.rw_tiedmoments_k01_errors_by_themselves).prog w K mg base 1 "InvalidTests" "InvalidTests" ["at"] (He.ga K "InvalidTests") := is_InvalidTests (file := hfile) (by kernel_rfl) (by kernel_rfl) (hgl "InvalidTests" (by decide +kernel)) su hy52 hy53 hy54 (cx.er 17 rfl)
  have EK_InvalidTests_at : ErK (PySem.Challenge.rw_tiedmoments_k01_errors_by_themselves).prog w K mg base 1 "InvalidTests" "InvalidTests" ["at"] (He.ga K "InvalidTests") ["at"] [0] := ik_InvalidTests_at (file := hfile) (by kernel_rfl) (by kernel_rfl) (hgl "InvalidTests" (by decide +kernel)) su hy52 hy53 hy54 (cx.er 17 rfl)
  have ER_InvalidText : Er (PySem.Challenge.rw_tiedmoments_k01_errors_by_themselves).prog w K mg base 1 "InvalidText" "InvalidText" ["at"] (He.ga K "InvalidText") := is_InvalidText (file := hfile) (by kernel_rfl) (by kernel_rfl) (hgl "InvalidText" (by decide +kernel)) su hy55 hy56 hy57 (cx.er 18 rfl)
  have EK_InvalidText_at : ErK (PySem.Challenge.rw_tiedmoments_k01_errors_by_themselves).prog w K mg base 1 "InvalidText" "InvalidText" ["at"] (He.ga K "InvalidText") ["at"] [0] := ik_InvalidText_at (file := hfile) (by kernel_rfl) (by kernel_rfl) (hgl "InvalidText" (by decide +kernel)) su hy55 hy56 hy57 (cx.er 18 rfl)
  have ER_InvalidCommand : Er (PySem.Challenge.rw_tiedmoments_k01_errors_by_themselves).prog w K mg base 1 "InvalidCommand" "InvalidCommand" ["at"] (He.ga K "InvalidCommand") := is_InvalidCommand (file := hfile) (by kernel_rfl) (by kernel_rfl) (hgl "InvalidCommand" (by decide +kernel)) su hy58 hy59 hy60 (cx.er 19 rfl)
  have EK_InvalidCommand_at : ErK (PySem.Challenge.rw_tiedmoments_k01_errors_by_themselves).prog w K mg base 1 "InvalidCommand" "InvalidCommand" ["at"] (He.ga K "InvalidCommand") ["at"] [0] := ik_InvalidCommand_at (file := hfile) (by kernel_rfl) (by kernel_rfl) (hgl "InvalidCommand" (by decide +kernel)) su hy58 hy59 hy60 (cx.er 19 rfl)
  have ER_Full : Er (PySem.Challenge.rw_tiedmoments_k01_errors_by_themselves).prog w K mg base 1 "Full" "Full" ["limit"] (He.ga K "Full") := is_Full (file := hfile) (by kernel_rfl) (by kernel_rfl) (hgl "Full" (by decide +kernel)) su hy61 hy62 hy63 (cx.er 20 rfl)
  have EK_Full_limit : ErK (PySem.Challenge.rw_tiedmoments_k01_errors_by_themselves).prog w K mg base 1 "Full" "Full" ["limit"] (He.ga K "Full") ["limit"] [0] := ik_Full_limit (file := hfile) (by kernel_rfl) (by kernel_rfl) (hgl "Full" (by decide +kernel)) su hy61 hy62 hy63 (cx.er 20 rfl)
  have ER_InvalidLimit : Er (PySem.Challenge.rw_tiedmoments_k01_errors_by_themselves).prog w K mg base 1 "InvalidLimit" "InvalidLimit" ["value"] (He.ga K "InvalidLimit") := is_InvalidLimit (file := hfile) (by kernel_rfl) (by kernel_rfl) (hgl "InvalidLimit" (by decide +kernel)) su hy64 hy65 hy66 (cx.er 21 rfl)
  have EK_InvalidLimit_value : ErK (PySem.Challenge.rw_tiedmoments_k01_errors_by_themselves).prog w K mg base 1 "InvalidLimit" "InvalidLimit" ["value"] (He.ga K "InvalidLimit") ["value"] [0] := ik_InvalidLimit_value (file := hfile) (by kernel_rfl) (by kernel_rfl) (hgl "InvalidLimit" (by decide +kernel)) su hy64 hy65 hy66 (cx.er 21 rfl)
  have ER_InvalidPage : Er (PySem.Challenge.rw_tiedmoments_k01_errors_by_themselves).prog w K mg base 1 "InvalidPage" "InvalidPage" ["line"] (He.ga K "InvalidPage") := is_InvalidPage (file := hfile) (by kernel_rfl) (by kernel_rfl) (hgl "InvalidPage" (by decide +kernel)) su hy67 hy68 hy69 (cx.er 22 rfl)
  have EK_InvalidPage_line : ErK (PySem.Challenge.rw_tiedmoments_k01_errors_by_themselves).prog w K mg base 1 "InvalidPage" "InvalidPage" ["line"] (He.ga K "InvalidPage") ["line"] [0] := ik_InvalidPage_line (file := hfile) (by kernel_rfl) (by kernel_rfl) (hgl "InvalidPage" (by decide +kernel)) su hy67 hy68 hy69 (cx.er 22 rfl)
  have ER_UnknownProcess : Er (PySem.Challenge.rw_tiedmoments_k01_errors_by_themselves).prog w K mg base 1 "UnknownProcess" "UnknownProcess" ["name"] (He.ga K "UnknownProcess") := is_UnknownProcess (file := hfile) (by kernel_rfl) (by kernel_rfl) (hgl "UnknownProcess" (by decide +kernel)) su hy70 hy71 hy72 (cx.er 23 rfl)
  have EK_UnknownProcess_name : ErK (PySem.Challenge.rw_tiedmoments_k01_errors_by_themselves).prog w K mg base 1 "UnknownProcess" "UnknownProcess" ["name"] (He.ga K "UnknownProcess") ["name"] [0] := ik_UnknownProcess_name (file := hfile) (by kernel_rfl) (by kernel_rfl) (hgl "UnknownProcess" (by decide +kernel)) su hy70 hy71 hy72 (cx.er 23 rfl)
  have ER_UnknownStep : Er (PySem.Challenge.rw_tiedmoments_k01_errors_by_themselves).prog w K mg base 1 "UnknownStep" "UnknownStep" ["step"] (He.ga K "UnknownStep") := is_UnknownStep (file := hfile) (by kernel_rfl) (by kernel_rfl) (hgl "UnknownStep" (by decide +kernel)) su hy73 hy74 hy75 (cx.er 24 rfl)
  have EK_UnknownStep_step : ErK (PySem.Challenge.rw_tiedmoments_k01_errors_by_themselves).prog w K mg base 1 "UnknownStep" "UnknownStep" ["step"] (He.ga K "UnknownStep") ["step"] [0] := ik_UnknownStep_step (file := hfile) (by kernel_rfl) (by kernel_rfl) (hgl "UnknownStep" (by decide +kernel)) su hy73 hy74 hy75 (cx.er 24 rfl)
  have ER_UnknownName : Er (PySem.Challenge.rw_tiedmoments_k01_errors_by_themselves).prog w K mg base 1 "UnknownName" "UnknownName" ["name"] (He.ga K "UnknownName") := is_UnknownName (file := hfile) (by kernel_rfl) (by kernel_rfl) (hgl "UnknownName" (by decide +kernel)) su hy76 hy77 hy78 (cx.er 25 rfl)
  have EK_UnknownName_name : ErK (PySem.Challenge.rw_tiedmoments_k01_errors_by_themselves).prog w K mg base 1 "UnknownName" "UnknownName" ["name"] (He.ga K "UnknownName") ["name"] [0] := ik_UnknownName_name (file := hfile) (by kernel_rfl) (by kernel_rfl) (hgl "UnknownName" (by decide +kernel)) su hy76 hy77 hy78 (cx.er 25 rfl)
  have ER_NothingLeft : Er (PySem.Challenge.rw_tiedmoments_k01_errors_by_themselves).prog w K mg base 1 "NothingLeft" "NothingLeft" [] (He.ga K "NothingLeft") := is_NothingLeft (file := hfile) (by kernel_rfl) (by kernel_rfl) (hgl "NothingLeft" (by decide +kernel)) su hy79 hy80 hy81 (cx.er 26 rfl)
  have b__law_draw : Binds K fd__law_draw ["_law_bag_here", "_law_many"] [] := FunD.bindsN F__law_draw fun _ _ _ _ _ _ us hl => match us, hl with | [_, _], _ => rfl
  have g__law_draw := He.glo_ok X G (c.d.fact 0 (f := .glo "_law_draw") rfl)
  have D__law_draw : Df (PySem.Challenge.rw_tiedmoments_k01_errors_by_themselves).prog w K mg base 1 "_law_draw" ["_law_bag_here", "_law_many"] 2 drawS (He.fAd K ("_law_draw", none)) fd__law_draw := ⟨g__law_draw, F__law_draw.kp, ok_draw F__law_draw T.f_len T.f_int, b__law_draw⟩
  have b__law_of : Binds K fd__law_of ["_law_bag_here", "_law_some"] [] := FunD.bindsN F__law_of fun _ _ _ _ _ _ us hl => match us, hl with | [_, _], _ => rfl
  have g__law_of := He.glo_ok X G (c.d.fact 1 (f := .glo "_law_of") rfl)
  have D__law_of : Df (PySem.Challenge.rw_tiedmoments_k01_errors_by_themselves).prog w K mg base 2 "_law_of" ["_law_bag_here", "_law_some"] 2 ofS (He.fAd K ("_law_of", none)) fd__law_of := ⟨g__law_of, F__law_of.kp, ok_of F__law_of D__law_draw T.f_len, b__law_of⟩
  have b__law_bag : Binds K fd__law_bag ["_law_script"] [] := FunD.bindsN F__law_bag fun _ _ _ _ _ _ us hl => match us, hl with | [_], _ => rfl
  have g__law_bag := He.glo_ok X G (c.d.fact 2 (f := .glo "_law_bag") rfl)
  have G__law_bag := ok_bag (P := (PySem.Challenge.rw_tiedmoments_k01_errors_by_themselves).prog) (w := w) (mg := mg) (base := base) (k := 0) F__law_bag T.f_int T.f_list
  have b__law_other_field : Binds K fd__law_other_field ["_law_e"] [] := FunD.bindsN F__law_other_field fun _ _ _ _ _ _ us hl => match us, hl with | [_], _ => rfl
  have g__law_other_field := He.glo_ok X G (c.d.fact 3 (f := .glo "_law_other_field") rfl)
  have D__law_other_field : Df (PySem.Challenge.rw_tiedmoments_k01_errors_by_themselves).prog w K mg base 1 "_law_other_field" ["_law_e"] 1 S_z01_law_other_field (He.fAd K ("_law_other_field", none)) fd__law_other_field := ⟨g__law_other_field, F__law_other_field.kp, ok__law_other_field T F__law_other_field EF_block EF_code EF_limit EF_line EF_most EF_process EF_step EF_subject, b__law_other_field⟩
  have b__law_field : Binds K fd__law_field ["_law_e"] [] := FunD.bindsN F__law_field fun _ _ _ _ _ _ us hl => match us, hl with | [_], _ => rfl
  have g__law_field := He.glo_ok X G (c.d.fact 4 (f := .glo "_law_field") rfl)
  have D__law_field : Df (PySem.Challenge.rw_tiedmoments_k01_errors_by_themselves).prog w K mg base 2 "_law_field" ["_law_e"] 1 S_z01_law_field (He.fAd K ("_law_field", none)) fd__law_field := ⟨g__law_field, F__law_field.kp, ok__law_field T F__law_field D__law_other_field EF_at EF_code EF_index EF_message EF_name EF_one EF_other EF_process EF_value, b__law_field⟩
  have b__law_same : Binds K fd__law_same ["_law_found", "_law_due"] [] := FunD.bindsN F__law_same fun _ _ _ _ _ _ us hl => match us, hl with | [_, _], _ => rfl
  have g__law_same := He.glo_ok X G (c.d.fact 5 (f := .glo "_law_same") rfl)
  have D0__law_same : Df (PySem.Challenge.rw_tiedmoments_k01_errors_by_themselves).prog w K mg base 0 "_law_same" ["_law_found", "_law_due"] 2 (S__law_same 0) (He.fAd K ("_law_same", none)) fd__law_same := ⟨g__law_same, F__law_same.kp, fn_bad rfl, b__law_same⟩
  have D1__law_same : Df (PySem.Challenge.rw_tiedmoments_k01_errors_by_themselves).prog w K mg base 1 "_law_same" ["_law_found", "_law_due"] 2 (S__law_same 1) (He.fAd K ("_law_same", none)) fd__law_same := ⟨g__law_same, F__law_same.kp, step__law_same T F__law_same D0__law_same, b__law_same⟩
  have D2__law_same : Df (PySem.Challenge.rw_tiedmoments_k01_errors_by_themselves).prog w K mg base 2 "_law_same" ["_law_found", "_law_due"] 2 (S__law_same 2) (He.fAd K ("_law_same", none)) fd__law_same := ⟨g__law_same, F__law_same.kp, step__law_same T F__law_same D1__law_same, b__law_same⟩
  have D3__law_same : Df (PySem.Challenge.rw_tiedmoments_k01_errors_by_themselves).prog w K mg base 3 "_law_same" ["_law_found", "_law_due"] 2 (S__law_same 3) (He.fAd K ("_law_same", none)) fd__law_same := ⟨g__law_same, F__law_same.kp, step__law_same T F__law_same D2__law_same, b__law_same⟩
  have D4__law_same : Df (PySem.Challenge.rw_tiedmoments_k01_errors_by_themselves).prog w K mg base 4 "_law_same" ["_law_found", "_law_due"] 2 (S__law_same 4) (He.fAd K ("_law_same", none)) fd__law_same := ⟨g__law_same, F__law_same.kp, step__law_same T F__law_same D3__law_same, b__law_same⟩
  have D__law_same : Df (PySem.Challenge.rw_tiedmoments_k01_errors_by_themselves).prog w K mg base 5 "_law_same" ["_law_found", "_law_due"] 2 (S__law_same 5) (He.fAd K ("_law_same", none)) fd__law_same := ⟨g__law_same, F__law_same.kp, step__law_same T F__law_same D4__law_same, b__law_same⟩
  have b__law_odd : Binds K fd__law_odd ["_law_bag_here", "_law_others"] [] := FunD.bindsN F__law_odd fun _ _ _ _ _ _ us hl => match us, hl with | [_, _], _ => rfl
  have g__law_odd := He.glo_ok X G (c.d.fact 6 (f := .glo "_law_odd") rfl)
  have D__law_odd : Df (PySem.Challenge.rw_tiedmoments_k01_errors_by_themselves).prog w K mg base 3 "_law_odd" ["_law_bag_here", "_law_others"] 2 S_z01_law_odd (He.fAd K ("_law_odd", none)) fd__law_odd := ⟨g__law_odd, F__law_odd.kp, ok__law_odd T F__law_odd D__law_of, b__law_odd⟩
  have b__law_made_errors : Binds K fd__law_made_errors ["_law_a", "_law_b", "_law_c"] [] := FunD.bindsN F__law_made_errors fun _ _ _ _ _ _ us hl => match us, hl with | [_, _, _], _ => rfl
  have g__law_made_errors := He.glo_ok X G (c.d.fact 7 (f := .glo "_law_made_errors") rfl)
  have D__law_made_errors : Df (PySem.Challenge.rw_tiedmoments_k01_errors_by_themselves).prog w K mg base 3 "_law_made_errors" ["_law_a", "_law_b", "_law_c"] 3 S__law_made_errors (He.fAd K ("_law_made_errors", none)) fd__law_made_errors := ⟨g__law_made_errors, F__law_made_errors.kp, ok__law_made_errors T F__law_made_errors ER_DuplicateMessage ER_DuplicateName ER_EmptyLot ER_Full ER_InvalidClause ER_InvalidCommand ER_InvalidLimit ER_InvalidMoment ER_InvalidName ER_InvalidNumber ER_InvalidPage ER_InvalidPoint ER_InvalidRow ER_InvalidStep ER_InvalidTests ER_InvalidText ER_InvalidWeights ER_NothingLeft ER_Parted ER_Ring ER_TooMany ER_Uneven ER_UnknownName ER_UnknownProcess ER_UnknownStep ER_UnlikeLogs ER_Unsent, b__law_made_errors⟩
  have b__law_named_errors : Binds K fd__law_named_errors ["_law_a", "_law_b", "_law_c"] [] := FunD.bindsN F__law_named_errors fun _ _ _ _ _ _ us hl => match us, hl with | [_, _, _], _ => rfl
  have g__law_named_errors := He.glo_ok X G (c.d.fact 8 (f := .glo "_law_named_errors") rfl)
  have D__law_named_errors : Df (PySem.Challenge.rw_tiedmoments_k01_errors_by_themselves).prog w K mg base 3 "_law_named_errors" ["_law_a", "_law_b", "_law_c"] 3 S__law_named_errors (He.fAd K ("_law_named_errors", none)) fd__law_named_errors := ⟨g__law_named_errors, F__law_named_errors.kp, ok__law_named_errors T F__law_named_errors ER_EmptyLot ER_InvalidWeights ER_NothingLeft ER_UnlikeLogs EK_DuplicateMessage_message EK_DuplicateName_name EK_Full_limit EK_InvalidClause_at EK_InvalidCommand_at EK_InvalidLimit_value EK_InvalidMoment_value EK_InvalidName_value EK_InvalidNumber_value EK_InvalidPage_line EK_InvalidPoint_value EK_InvalidRow_at EK_InvalidStep_index_process EK_InvalidTests_at EK_InvalidText_at EK_Parted_other_one_at EK_Ring_process EK_TooMany_most_subject EK_Uneven_block EK_UnknownName_name EK_UnknownProcess_name EK_UnknownStep_step EK_Unsent_message, b__law_named_errors⟩
  have b__law_kinds_of : Binds K fd__law_kinds_of ["_law_e"] [] := FunD.bindsN F__law_kinds_of fun _ _ _ _ _ _ us hl => match us, hl with | [_], _ => rfl
  have g__law_kinds_of := He.glo_ok X G (c.d.fact 9 (f := .glo "_law_kinds_of") rfl)
  have D__law_kinds_of : Df (PySem.Challenge.rw_tiedmoments_k01_errors_by_themselves).prog w K mg base 1 "_law_kinds_of" ["_law_e"] 1 S__law_kinds_of (He.fAd K ("_law_kinds_of", none)) fd__law_kinds_of := ⟨g__law_kinds_of, F__law_kinds_of.kp, ok__law_kinds_of T F__law_kinds_of NM_DuplicateMessage IE_DuplicateMessage NM_DuplicateName IE_DuplicateName NM_EmptyLot IE_EmptyLot NM_Full IE_Full NM_InvalidClause IE_InvalidClause NM_InvalidCommand IE_InvalidCommand NM_InvalidLimit IE_InvalidLimit NM_InvalidMoment IE_InvalidMoment NM_InvalidName IE_InvalidName NM_InvalidNumber IE_InvalidNumber NM_InvalidPage IE_InvalidPage NM_InvalidPoint IE_InvalidPoint NM_InvalidRow IE_InvalidRow NM_InvalidStep IE_InvalidStep NM_InvalidTests IE_InvalidTests NM_InvalidText IE_InvalidText NM_InvalidWeights IE_InvalidWeights NM_NothingLeft IE_NothingLeft NM_Parted IE_Parted NM_Ring IE_Ring NM_TooMany IE_TooMany NM_Uneven IE_Uneven NM_UnknownName IE_UnknownName NM_UnknownProcess IE_UnknownProcess NM_UnknownStep IE_UnknownStep NM_UnlikeLogs IE_UnlikeLogs NM_Unsent IE_Unsent, b__law_kinds_of⟩
  have b__law_codes : Binds K fd__law_codes [] [] := FunD.bindsN F__law_codes fun _ _ _ _ _ _ us hl => match us, hl with | [], _ => rfl
  have g__law_codes := He.glo_ok X G (c.d.fact 10 (f := .glo "_law_codes") rfl)
  have D__law_codes : Df (PySem.Challenge.rw_tiedmoments_k01_errors_by_themselves).prog w K mg base 1 "_law_codes" [] 0 S__law_codes (He.fAd K ("_law_codes", none)) fd__law_codes := ⟨g__law_codes, F__law_codes.kp, ok__law_codes T F__law_codes , b__law_codes⟩
  exact ok_law T F_law G__law_bag g__law_bag F__law_bag.kp b__law_bag D__law_codes D__law_draw D__law_field D__law_kinds_of D__law_made_errors D__law_named_errors D__law_odd D__law_same EF_code IE_IndexError NM_LogError IE_LogError IE_LookupError NM_Missing IE_Missing IE_ValueError pure01
end TM
open PySem PySem.W PySem.Calls PyProof.Rows
theorem PySem.Challenge.cw_tiedmoments_k01_errors_by_themselves_holds : PySem.Challenge.rw_tiedmoments_k01_errors_by_themselves.Holds := by
  w_on; o_law
  refine HandSHeadRun.head_any (r := OpenLaw.row PySem.Challenge.rw_tiedmoments_k01_errors_by_themselves) (q := view (OpenLaw.row PySem.Challenge.rw_tiedmoments_k01_errors_by_themselves).prog [42]) (H := TM.hhk) (ob := TM.hob) (M := 40000) (loose := TM.hloose) (d := HandSHeadRun.topDef (OpenLaw.row PySem.Challenge.rw_tiedmoments_k01_errors_by_themselves).prog 42) (kwd := []) TM.hob_eq
    (by kernel_rfl) (fun s => by kernel_rfl) TM.hrun (by kernel_rfl) (by kernel_rfl) (by kernel_rfl) (by rfl) (by first | assumption | decide +kernel) (by decide +kernel) ⟨rfl, rfl, rfl, rfl, rfl, by decide +kernel⟩ ?hw ?hc
  case hw => w_witness2
  case hc =>
    refine LamX.walk_ofTsE (l := PySem.Challenge.rw_tiedmoments_k01_errors_by_themselves) (n := 63) (k := 6) (x := "_law_script") (CX := fun _ => L2.CX0) rfl (by decide) (by kernel_rfl) ⟨rfl, by decide, by decide⟩ ?F (fun _ _ _ _ _ z => z)
    intro w mg fa h Y G hmg0
    obtain ⟨K, KX, c⟩ := Y
    have hmg : mg ("law" : PySem.Str) = some (.ref fa) := by
      have e : (HandSHeadRun.topDef (OpenLaw.row PySem.Challenge.rw_tiedmoments_k01_errors_by_themselves).prog 42).name = ("law" : PySem.Str) := by kernel_rfl
      rw [← e]
      exact hmg0
    exact ⟨K, KX, TM.hfacts KX G hmg c⟩
