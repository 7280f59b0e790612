import PyProof.Rows.All
import Wide.All
import OpenK.AllK
import Wide.FinOn
import HandS.Words
import KE.KLam
import KE.KNestM
import HandS.Lambda
import HandS.ForMost
import HandS.ForExc
import HandS.IsInst
import HandS.Deep
import HandS.TupAny
import HandS.TupMul
import HandS.Conv
import HandS.Wide
import KE.KDictKeyed
import HandS.Zip
import HandS.Style
import KE.SortData
import HandS.ExcValue
import PyProof.TupleOfSeq
import KE.DataCmp
import KE.KDictPairs
import HandS.DictEq
import HandS.DictSubView
import KE.KDictSum
import KE.GoesMore
import PyProof.EnumMake
import HandS.Iter
import HandS.Text
import HandS.Exc
import HandS.ExcInit
import HandS.ExcOwn
import HandS.ExcIs
import KE.KExcIs
import PyProof.AutoSeq1
import PyProof.ReprBulk
import PySem.Challenge.RW_wheelfill_k39_rules_that_part
set_option Elab.async false
set_option linter.all false
set_option maxRecDepth 100000
set_option maxHeartbeats 4000000
namespace DL
open PySem PySem.Spec PyProof.Rows L2
structure LamD where
  q : Str
  ps : Arguments
  body : Expr
  sc : Scope
abbrev tabs : List (Addr × Str) := [(95, "parted.<locals>.<lambda>"), (196, "law.<locals>.<lambda>")]
theorem tabs_nd : (tabs.map (·.1)).Nodup := by decide
def topD (i : Nat) : Stmt := PySem.Challenge.pw_wheelfill_k39_rules_that_part.main.body.getD i (.Pass ⟨0, 0, 0, 0⟩)
def bodyS : Stmt → List Stmt
  | .For _ _ b _ _ => b
  | .While _ b _ _ => b
  | .If _ b _ _ => b
  | .FunctionDef _ _ b _ _ _ _ _ _ _ => b
  | _ => []
def stmtAt : Stmt → List Nat → Stmt
  | s, [] => s
  | s, i :: r => stmtAt ((bodyS s).getD i s) r
def exprS : Stmt → Expr
  | .Return (some e) _ => e
  | .Assign _ e _ => e
  | _ => .Tuple [] 0 ⟨0, 0, 0, 0⟩
def argE (i : Nat) : Expr → Expr
  | .Call f as _ _ => as.getD i f
  | e => e
def lamOf (q : Str) : Expr → LamD
  | .Lambda a b s _ => ⟨q, a, b, s⟩
  | e => ⟨q, defArgs (topD 0), e, defScope (topD 0)⟩
def lamL : Nat → LamD
  | 0 => lamOf "parted.<locals>.<lambda>" (argE 2 (exprS (stmtAt (topD 18) [0])))
  | 1 => lamOf "law.<locals>.<lambda>" (argE 2 (exprS (stmtAt (topD 36) [1, 1, 2])))
  | _ => lamOf "" (exprS (topD 0))
def lamD (n : Nat) : Option LamD := if n < 2 then some (lamL n) else none
end DL
namespace DL
open PySem PySem.Spec PyProof.Rows L2
abbrev D := PyData
/-- a text's key, a tuple's -/
def keyD : D → Option NestedKey
  | .none => some .none
  | .bool b => some (.num (if b then 1 else 0))
  | .int i => some (.num i)
  | .str x => some (.text x)
  | .tuple ds => (keyDs ds).map .tup
  | .list _ => none
  | .dict _ => none
where keyDs : List D → Option (List NestedKey)
  | [] => some []
  | d :: ds => match keyD d, keyDs ds with
    | some k, some ks => some (k :: ks)
    | _, _ => none
/-- the fixed things: the written part, the world, the classes by name -/
structure Bs where
  P : Program
  K : PySem.W.Frag
  w : World
  cls : Str → Option Addr
/-- a dict with tuple keys, by its own object alone -/
abbrev NL := Obj × List (NestedKey × Addr × V)
def RawN (B : Bs) (a : Addr) (ks : NL) (h : Heap) : Prop :=
  (a == sysModules) = false ∧ ks.2.length ≤ sizeLine ∧ ∃ xs : List (NestedKey × Addr × Value), Paired (fun p q => p.1 = q.1 ∧ p.2.1 = q.2.1 ∧ RelV p.2.2 q.2.2) ks.2 xs ∧
    ∃ o es ep, o = ks.1 ∧ h.get? a = some o ∧ o.ExactDict ∧ o.data = .dict es ep ∧ es.toList = xs.map (entryOfKey (nestedKind B.P B.w)) ∧ (xs.map (·.1)).Nodup
def dN (B : Bs) (a : Addr) (ks : NL) : HO := .ext (RawN B a ks)
/-- what is a tuple -/
def isTu : HO → Bool
  | .tup _ => true
  | .frz _ (.tup _) => true
  | .frz _ (.own _) => true
  | _ => false
/-- what stands at a: a tuple, a tuple whose object is known, a written one -/
def Tp (K : PySem.W.Frag) (H : Hp) (a : Addr) (xs : List V) : Prop :=
  (H a = some (.tup xs) ∨ ∃ o, H a = some (.frz o (.tup xs))) ∨
    ∃ (o : Obj) (its : Array Value) (n : Nat), K.lookup a = some o ∧ o.cls = .type "tuple" ∧ o.data = .seq its n ∧ its.size ≤ sizeLine ∧ Vals xs its.toList
theorem Tp.of {K : PySem.W.Frag} {H : Hp} {a : Addr} {xs : List V} (h : H a = some (.tup xs)) : Tp K H a xs := .inl (.inl h)
theorem Tp.sq {K : PySem.W.Frag} {H : Hp} {a : Addr} {xs : List V} (h : Tp K H a xs) : SqT K H a xs := by
  rcases h with h | h
  · exact .inl h
  · exact .inr h
/-- a tuple whose own object is plain -/
def Pl (H : Hp) (a : Addr) (xs : List V) : Prop := ∃ o, H a = some (.frz o (.tup xs)) ∧ o.dict = none
mutual
/-- the value v stands for the data d; no list or dict of it stands where Av says -/
inductive Rp (B : Bs) (Av : Addr → Prop) (H : Hp) : V → D → Prop
  | non : Rp B Av H .non .none
  | bl (b : Bool) : Rp B Av H (.bl b) (.bool b)
  | int (i : Int) : Rp B Av H (.int i) (.int i)
  | str (x : Str) : Rp B Av H (.str x) (.str x)
  | lst {a : Addr} {xs : List V} {ds : List D} (h : H a = some (.lst xs)) (n : ¬ Av a) (r : RpL B Av H xs ds) : Rp B Av H (.ref a) (.list ds)
  | tup {a : Addr} {xs : List V} {ds : List D} (h : Tp B.K H a xs) (r : RpL B Av H xs ds) : Rp B Av H (.ref a) (.tuple ds)
  | dic {a : Addr} {ks : List (Key × V)} {kvs : List (D × D)} (h : H a = some (.dK ks)) (n : ¬ Av a) (r : RpM B Av H (ks.map fun p => (kV p.1, p.2)) kvs) : Rp B Av H (.ref a) (.dict kvs)
  | dct {a : Addr} {ks : NL} {kvs : List (D × D)} (h : H a = some (dN B a ks)) (n : ¬ Av a) (e : kvs.map (fun p => keyD p.1) = ks.2.map (fun p => some p.1))
      (r : RpM B Av H (ks.2.map fun p => (.ref p.2.1, p.2.2)) kvs) : Rp B Av H (.ref a) (.dict kvs)
inductive RpL (B : Bs) (Av : Addr → Prop) (H : Hp) : List V → List D → Prop
  | nil : RpL B Av H [] []
  | cons {v : V} {d : D} {vs : List V} {ds : List D} (h : Rp B Av H v d) (t : RpL B Av H vs ds) : RpL B Av H (v :: vs) (d :: ds)
inductive RpM (B : Bs) (Av : Addr → Prop) (H : Hp) : List (V × V) → List (D × D) → Prop
  | nil : RpM B Av H [] []
  | cons {k v : V} {kd d : D} {vs : List (V × V)} {ds : List (D × D)} (h1 : Rp B Av H k kd) (h2 : Rp B Av H v d) (t : RpM B Av H vs ds) : RpM B Av H ((k, v) :: vs) ((kd, d) :: ds)
end
/-- tuples stay, and what is not in Av -/
structure Kp (Av : Addr → Prop) (H H' : Hp) : Prop where
  tup : ∀ a u, isTu u = true → H a = some u → H' a = some u
  all : ∀ a o, H a = some o → ¬ Av a → H' a = some o
section
variable {B : Bs} {Av Av' : Addr → Prop} {H H' : Hp}
theorem Tp.kp {K : PySem.W.Frag} (k : Kp Av H H') {a : Addr} {xs : List V} (h : Tp K H a xs) : Tp K H' a xs := by
  rcases h with (h | ⟨o, h⟩) | h
  · exact .inl (.inl (k.tup _ _ rfl h))
  · exact .inl (.inr ⟨o, k.tup _ _ rfl h⟩)
  · exact .inr h
mutual
theorem Rp.kp (k : Kp Av H H') : ∀ {v : V} {d : D}, Rp B Av H v d → Rp B Av H' v d
  | _, _, .non => .non
  | _, _, .bl b => .bl b
  | _, _, .int i => .int i
  | _, _, .str x => .str x
  | _, _, .lst h n r => .lst (k.all _ _ h n) n (RpL.kp k r)
  | _, _, .tup h r => .tup (h.kp k) (RpL.kp k r)
  | _, _, .dic h n r => .dic (k.all _ _ h n) n (RpM.kp k r)
  | _, _, .dct h n e r => .dct (k.all _ _ h n) n e (RpM.kp k r)
theorem RpL.kp (k : Kp Av H H') : ∀ {v : List V} {d : List D}, RpL B Av H v d → RpL B Av H' v d
  | _, _, .nil => .nil
  | _, _, .cons h t => .cons (Rp.kp k h) (RpL.kp k t)
theorem RpM.kp (k : Kp Av H H') : ∀ {v : List (V × V)} {d : List (D × D)}, RpM B Av H v d → RpM B Av H' v d
  | _, _, .nil => .nil
  | _, _, .cons h g t => .cons (Rp.kp k h) (Rp.kp k g) (RpM.kp k t)
end
mutual
theorem Rp.mono (k : ∀ a, Av' a → Av a) : ∀ {v : V} {d : D}, Rp B Av H v d → Rp B Av' H v d
  | _, _, .non => .non
  | _, _, .bl b => .bl b
  | _, _, .int i => .int i
  | _, _, .str x => .str x
  | _, _, .lst h n r => .lst h (fun z => n (k _ z)) (RpL.mono k r)
  | _, _, .tup h r => .tup h (RpL.mono k r)
  | _, _, .dic h n r => .dic h (fun z => n (k _ z)) (RpM.mono k r)
  | _, _, .dct h n e r => .dct h (fun z => n (k _ z)) e (RpM.mono k r)
theorem RpL.mono (k : ∀ a, Av' a → Av a) : ∀ {v : List V} {d : List D}, RpL B Av H v d → RpL B Av' H v d
  | _, _, .nil => .nil
  | _, _, .cons h t => .cons (Rp.mono k h) (RpL.mono k t)
theorem RpM.mono (k : ∀ a, Av' a → Av a) : ∀ {v : List (V × V)} {d : List (D × D)}, RpM B Av H v d → RpM B Av' H v d
  | _, _, .nil => .nil
  | _, _, .cons h g t => .cons (Rp.mono k h) (Rp.mono k g) (RpM.mono k t)
end
end
/-- nothing in it that could change -/
def hard : D → Bool
  | .none | .bool _ | .int _ | .str _ => true
  | .list _ => false
  | .tuple ds => hardL ds
  | .dict _ => false
where hardL : List D → Bool
  | [] => true
  | d :: ds => hard d && hardL ds
section
variable {B : Bs} {Av Av' : Addr → Prop} {H H' : Hp}
theorem RpL.len : ∀ {v : List V} {d : List D}, RpL B Av H v d → v.length = d.length
  | _, _, .nil => rfl
  | _, _, .cons _ t => by simp [RpL.len t]
theorem RpL.app : ∀ {v v' : List V} {d d' : List D}, RpL B Av H v d → RpL B Av H v' d' → RpL B Av H (v ++ v') (d ++ d')
  | _, _, _, _, .nil, h => h
  | _, _, _, _, .cons a t, h => .cons a (RpL.app t h)
theorem RpL.get : ∀ {v : List V} {d : List D} {i : Nat} {x : V}, RpL B Av H v d → v[i]? = some x → ∃ y, d[i]? = some y ∧ Rp B Av H x y
  | _, _, _, _, .nil, h => by simp at h
  | _, _, 0, _, .cons a t, h => by simp at h; subst h; exact ⟨_, rfl, a⟩
  | _, _, i + 1, x, .cons a t, h => by
    obtain ⟨y, e, r⟩ := RpL.get (i := i) (x := x) t (by simpa using h)
    exact ⟨y, by simpa using e, r⟩
theorem RpL.get' : ∀ {v : List V} {d : List D} {i : Nat} {y : D}, RpL B Av H v d → d[i]? = some y → ∃ x, v[i]? = some x ∧ Rp B Av H x y
  | _, _, _, _, .nil, h => by simp at h
  | _, _, 0, _, .cons a t, h => by simp at h; subst h; exact ⟨_, rfl, a⟩
  | _, _, i + 1, x, .cons a t, h => by
    obtain ⟨y, e, r⟩ := RpL.get' (i := i) (y := x) t (by simpa using h)
    exact ⟨y, by simpa using e, r⟩
theorem RpL.take : ∀ {v : List V} {d : List D} (n : Nat), RpL B Av H v d → RpL B Av H (v.take n) (d.take n)
  | _, _, 0, _ => by simpa using RpL.nil
  | _, _, _ + 1, .nil => by simpa using RpL.nil
  | _, _, n + 1, .cons a t => by simpa using RpL.cons a (RpL.take n t)
theorem RpL.drop : ∀ {v : List V} {d : List D} (n : Nat), RpL B Av H v d → RpL B Av H (v.drop n) (d.drop n)
  | _, _, 0, h => by simpa using h
  | _, _, _ + 1, .nil => by simpa using RpL.nil
  | _, _, n + 1, .cons a t => by simpa using RpL.drop n t
theorem RpL.ints : ∀ {v : List V} {ns : List Int}, RpL B Av H v (ns.map .int) → v = ns.map V.int
  | _, [], .nil => rfl
  | _, n :: ns, .cons a t => by
    cases a
    rw [RpL.ints (ns := ns) t]
    rfl
theorem RpL.bools : ∀ {v : List V} {ns : List Bool}, RpL B Av H v (ns.map .bool) → v = ns.map V.bl
  | _, [], .nil => rfl
  | _, n :: ns, .cons a t => by
    cases a
    rw [RpL.bools (ns := ns) t]
    rfl
mutual
theorem Rp.dp : ∀ {v : V} {d : D}, Rp B Av H v d → d.canLay0 = true → Dp B.K H v d
  | _, _, .non, _ => .non
  | _, _, .bl b, _ => .bl b
  | _, _, .int i, _ => .int i
  | _, _, .str x, _ => .str x
  | _, _, .lst h n r, q => .lst (SqL.of h) (RpL.dp r (by simpa [PyData.canLay0] using q))
  | _, _, .tup h r, q => .tup h.sq (RpL.dp r (by simpa [PyData.canLay0] using q))
  | _, _, .dic _ _ _, h => by simp [PyData.canLay0] at h
  | _, _, .dct _ _ _ _, h => by simp [PyData.canLay0] at h
theorem RpL.dp : ∀ {v : List V} {d : List D}, RpL B Av H v d → PyData.canLayAll0 d = true → DpAll B.K H v d
  | _, _, .nil, _ => .nil
  | _, _, .cons h t, q => by
    simp only [PyData.canLayAll0, Bool.and_eq_true] at q
    exact .cons (Rp.dp h q.1) (RpL.dp t q.2)
end
end
/-- values -/
inductive Val where
  | d (x : D)
  | r (v : V)
  | o (c : Str) (fs : List (Str × D))
  | p (x : D)
  | f (n : Nat)
/-- attributes of an object of one's own: data, a dict of its own, a dict of its own lists -/
inductive GF where
  | d (x : D)
  | m (kvs : List (D × D))
  | ll (kvs : List (D × List D))
/-- slots: unset, a value, a list, a dict or an object of one's own that may change -/
inductive Sl where
  | no
  | v (x : Val)
  | l (ds : List D)
  | m (kvs : List (D × D))
  | g (c : Str) (a : Addr) (fs : List (Str × GF))
  | q (c : Str) (fs : List (Str × D))
abbrev Env := List Sl
/-- an exception: its class, its fields -/
structure Exn where
  c : Str
  fs : List (Str × D)
inductive Out (S : Type) (α : Type) where
  | bad
  | ok (a : α) (s : S)
  | ex (e : Exn) (s : S)
@[reducible] def Out.bind {S α β : Type} (o : Out S α) (k : α → S → Out S β) : Out S β := match o with
  | .ok a s => k a s
  | .ex e s => .ex e s
  | .bad => .bad
/-- a state that calls change (the deck): where it stands, what stands there -/
class SI (S : Type) where
  dks : S → List Addr
  rep : S → Hp → Prop
  there : ∀ (s : S) (H : Hp) (a : Addr), rep s H → a ∈ dks s → ∃ o, H a = some o ∧ isTu o = false
  keep : ∀ (s : S) (H H' : Hp), rep s H → (∀ a ∈ dks s, H' a = H a) → (∀ a u, isTu u = true → H a = some u → H' a = some u) → rep s H'
/-- a tuple whose object is plain, a dict whose object is known -/
def PlR (B : Bs) (Av : Addr → Prop) (H : Hp) (v : V) : D → Prop
  | .tuple ds => ∃ a xs, v = .ref a ∧ Pl H a xs ∧ RpL B Av H xs ds
  | .dict kvs => ∃ a ks, v = .ref a ∧ H a = some (dN B a ks) ∧ ¬ Av a ∧ kvs.map (fun p => keyD p.1) = ks.2.map (fun p => some p.1) ∧ RpM B Av H (ks.2.map fun p => (.ref p.2.1, p.2.2)) kvs
  | _ => False
theorem PlR.kp {B : Bs} {Av : Addr → Prop} {H H' : Hp} (k : Kp Av H H') {v : V} {d : D} (h : PlR B Av H v d) : PlR B Av H' v d := by
  cases d with
  | tuple ds => obtain ⟨a, xs, e, ⟨o, h, d⟩, r⟩ := h; exact ⟨a, xs, e, ⟨o, k.tup _ _ rfl h, d⟩, RpL.kp k r⟩
  | dict kvs => obtain ⟨a, ks, e, h, n, d, r⟩ := h; exact ⟨a, ks, e, k.all _ _ h n, n, d, RpM.kp k r⟩
  | _ => exact h.elim
theorem PlR.mono {B : Bs} {Av Av' : Addr → Prop} {H : Hp} (k : ∀ a, Av' a → Av a) {v : V} {d : D} (h : PlR B Av H v d) : PlR B Av' H v d := by
  cases d with
  | tuple ds => obtain ⟨a, xs, e, h, r⟩ := h; exact ⟨a, xs, e, h, RpL.mono k r⟩
  | dict kvs => obtain ⟨a, ks, e, h, n, d, r⟩ := h; exact ⟨a, ks, e, h, fun z => n (k _ z), d, RpM.mono k r⟩
  | _ => exact h.elim
/-- a thing that never changes, by its own object -/
def fxO (ob : Obj) : HO := .frz ob (.own 0)
/-- a code object of the name q -/
def CdAt (H : Hp) (c : Addr) (q : Str) : Prop := ∃ (oc : Obj) (vs : Array Value) (t : Tok), H c = some (fxO oc) ∧ oc.data = .fields vs ∧ vs[1]? = some (.str q t)
theorem CdAt.kp {H H' : Hp} (k : ∀ a u, isTu u = true → H a = some u → H' a = some u) {c : Addr} {q : Str} : CdAt H c q → CdAt H' c q := fun ⟨oc, vs, t, e, r⟩ => ⟨oc, vs, t, k _ _ rfl e, r⟩
/-- a lambda of the program -/
def LamAt (H : Hp) (v : V) (n : Nat) : Prop := ∃ (a c : Addr) (pm ctv : Value) (L : LamD), v = .ref a ∧ lamD n = some L ∧ H a = some (fxO (PySem.W.kla_obj "<lambda>" L.q L.ps L.body L.sc [] pm c ctv)) ∧ CdAt H c L.q
theorem LamAt.kp {H H' : Hp} (k : ∀ a u, isTu u = true → H a = some u → H' a = some u) {v : V} {n : Nat} : LamAt H v n → LamAt H' v n := fun ⟨a, c, pm, ctv, L, e, l, h, d⟩ => ⟨a, c, pm, ctv, L, e, l, k _ _ rfl h, d.kp k⟩
/-- a table of code objects: each of them bears the name q -/
def TabO (H : Hp) (P : Addr) (q : Str) : Prop := ∃ ps : Array Value, H P = some (.tbl ps) ∧ TriplesOk ps.toList ∧ ∀ (pos : Pos) (cv : Value), codeAmong pos ps.toList = some cv → ∃ c, cv = .ref c ∧ CdAt H c q
theorem TabO.kp {H H' : Hp} {P : Addr} {q : Str} (e : H' P = H P) (k : ∀ a u, isTu u = true → H a = some u → H' a = some u) : TabO H P q → TabO H' P q := fun ⟨ps, h, t, r⟩ => ⟨ps, e.trans h, t, fun pos cv hc => let ⟨c, e1, e2⟩ := r pos cv hc; ⟨c, e1, e2.kp k⟩⟩
/-- values in the heap -/
def RvV (B : Bs) (Av : Addr → Prop) (H : Hp) (v : V) : Val → Prop
  | .d x => Rp B Av H v x
  | .r u => v = u
  | .o c fs => ∃ a C dx fs', v = .ref a ∧ B.cls c = some C ∧ H a = some (.ins C dx fs') ∧ ¬ Av a ∧ ∀ p ∈ fs, ∃ u, fs'.lookup p.1 = some u ∧ Rp B Av H u p.2
  | .p x => PlR B Av H v x
  | .f n => LamAt H v n
/-- .. a list or a dict of one's own, too -/
inductive RtV (B : Bs) (Av : Addr → Prop) (N : Addr → Prop) (H : Hp) : V → Val → Prop
  | of {v : V} {y : Val} (h : RvV B Av H v y) : RtV B Av N H v y
  | lst {a : Addr} {xs : List V} {ds : List D} (h : H a = some (.lst xs)) (n : ¬ N a) (r : RpL B Av H xs ds) : RtV B Av N H (.ref a) (.d (.list ds))
  | dic {a : Addr} {ks : List (Key × V)} {kvs : List (D × D)} (h : H a = some (.dK ks)) (n : ¬ N a) (r : RpM B Av H (ks.map fun p => (kV p.1, p.2)) kvs) : RtV B Av N H (.ref a) (.d (.dict kvs))
  | dct {a : Addr} {ks : NL} {kvs : List (D × D)} (h : H a = some (dN B a ks)) (n : ¬ N a) (e : kvs.map (fun p => keyD p.1) = ks.2.map (fun p => some p.1))
      (r : RpM B Av H (ks.2.map fun p => (.ref p.2.1, p.2.2)) kvs) : RtV B Av N H (.ref a) (.d (.dict kvs))
theorem RvV.kp {B : Bs} {Av : Addr → Prop} {H H' : Hp} (k : Kp Av H H') {v : V} : ∀ {y : Val}, RvV B Av H v y → RvV B Av H' v y
  | .d _, h => Rp.kp k h
  | .r _, h => h
  | .o _ _, ⟨a, C, dx, fs', e, c, h, n, l⟩ => ⟨a, C, dx, fs', e, c, k.all _ _ h n, n, fun p hp => let ⟨u, e, r⟩ := l p hp; ⟨u, e, r.kp k⟩⟩
  | .p _, h => PlR.kp k h
  | .f _, h => LamAt.kp k.tup h
theorem RvV.mono {B : Bs} {Av Av' : Addr → Prop} {H : Hp} (k : ∀ a, Av' a → Av a) {v : V} : ∀ {y : Val}, RvV B Av H v y → RvV B Av' H v y
  | .d _, h => Rp.mono k h
  | .r _, h => h
  | .o _ _, ⟨a, C, dx, fs', e, c, h, n, l⟩ => ⟨a, C, dx, fs', e, c, h, fun z => n (k _ z), fun p hp => let ⟨u, e, r⟩ := l p hp; ⟨u, e, r.mono k⟩⟩
  | .p _, h => PlR.mono k h
  | .f _, h => h
end DL
namespace DL
open PySem PySem.Spec PyProof.Rows L2
/-- what stands around: the heap at the entry, what the caller keeps for itself, where the changing state stands -/
structure Gh where
  H0 : Hp
  A0 : Addr → Prop
  dks : List Addr
abbrev Sg := L2.St
abbrev Own := Nat → Option Addr
def Av (G : Gh) (own : Own) (a : Addr) : Prop := G.A0 a ∨ ∃ i, own i = some a
/-- a slot of one's own -/
def OwnAt (B : Bs) (A : Addr → Prop) (H : Hp) (a : Addr) : Sl → Prop
  | .l ds => ∃ xs, H a = some (.lst xs) ∧ RpL B A H xs ds
  | .m kvs => (∃ ks : List (Key × V), H a = some (.dK ks) ∧ RpM B A H (ks.map fun p => (kV p.1, p.2)) kvs) ∨
      ∃ ks : NL, H a = some (dN B a ks) ∧ kvs.map (fun p => keyD p.1) = ks.2.map (fun p => some p.1) ∧ RpM B A H (ks.2.map fun p => (V.ref p.2.1, p.2.2)) kvs
  | .q c fs => ∃ (C dx : Addr) (vs : List (Str × V)), B.cls c = some C ∧ H a = some (.ins C dx vs) ∧ vs.map (·.1) = fs.map (·.1) ∧ RpL B A H (vs.map (·.2)) (fs.map (·.2))
  | _ => False
/-- a dict's own lists -/
inductive LLr (B : Bs) (A : Addr → Prop) (H : Hp) : List (NestedKey × Addr × V) → List (D × List D) → List Addr → Prop
  | nil : LLr B A H [] [] []
  | cons {k : NestedKey} {ka l : Addr} {xs : List V} {kd : D} {ds : List D} {ks : List (NestedKey × Addr × V)} {kvs : List (D × List D)} {ls : List Addr} (ek : keyD kd = some k) (rk : Rp B A H (.ref ka) kd) (hl : H l = some (.lst xs)) (r : RpL B A H xs ds) (t : LLr B A H ks kvs ls) :
      LLr B A H ((k, ka, .ref l) :: ks) ((kd, ds) :: kvs) (l :: ls)
/-- an attribute, and what stands behind it of its own -/
inductive GfAt (B : Bs) (A : Addr → Prop) (H : Hp) : V → GF → List Addr → Prop
  | d {v : V} {x : D} (h : Rp B A H v x) : GfAt B A H v (.d x) []
  | m {b : Addr} {kvs : List (D × D)} (h : OwnAt B A H b (.m kvs)) : GfAt B A H (.ref b) (.m kvs) [b]
  | l0 {b : Addr} (h : H b = some (.dK [])) : GfAt B A H (.ref b) (.ll []) [b]
  | ll {b : Addr} {ks : NL} {kvs : List (D × List D)} {ls : List Addr} (h : H b = some (dN B b ks)) (nd : (ks.2.map (·.1)).Nodup) (r : LLr B A H ks.2 kvs ls) : GfAt B A H (.ref b) (.ll kvs) (b :: ls)
inductive GsAt (B : Bs) (A : Addr → Prop) (H : Hp) : List (Str × V) → List (Str × GF) → List Addr → Prop
  | nil : GsAt B A H [] [] []
  | cons {x : Str} {v : V} {f : GF} {vs : List (Str × V)} {fs : List (Str × GF)} {g1 g2 : List Addr} (h : GfAt B A H v f g1) (t : GsAt B A H vs fs g2) : GsAt B A H ((x, v) :: vs) ((x, f) :: fs) (g1 ++ g2)
/-- an object of one's own -/
def GmAt (B : Bs) (A : Addr → Prop) (H : Hp) (a : Addr) (c : Str) (fs : List (Str × GF)) (gs : List Addr) : Prop :=
  ∃ C dx vs, B.cls c = some C ∧ H a = some (.ins C dx vs) ∧ GsAt B A H vs fs gs
section
variable {B : Bs} {A A' : Addr → Prop} {H H' : Hp}
theorem LLr.imp (f : ∀ {v : V} {d : D}, Rp B A H v d → Rp B A' H' v d) (g : ∀ {v : List V} {d : List D}, RpL B A H v d → RpL B A' H' v d) : ∀ {ks : List (NestedKey × Addr × V)} {kvs : List (D × List D)} {ls : List Addr}, (∀ l ∈ ls, ∀ o, H l = some o → H' l = some o) → LLr B A H ks kvs ls → LLr B A' H' ks kvs ls
  | _, _, _, _, .nil => .nil
  | _, _, _, k, .cons ek rk hl r t => .cons ek (f rk) (k _ (.head _) _ hl) (g r) (LLr.imp f g (fun l h => k l (.tail _ h)) t)
theorem GfAt.imp (f : ∀ {v : V} {d : D}, Rp B A H v d → Rp B A' H' v d) (g : ∀ {v : List V} {d : List D}, RpL B A H v d → RpL B A' H' v d) (m : ∀ {b : Addr} {kvs : List (D × D)}, (∀ o, H b = some o → H' b = some o) → OwnAt B A H b (.m kvs) → OwnAt B A' H' b (.m kvs)) {v : V} {x : GF} {ls : List Addr} (k : ∀ l ∈ ls, ∀ o, H l = some o → H' l = some o) (h : GfAt B A H v x ls) : GfAt B A' H' v x ls := by
  cases h with
  | d h => exact .d (f h)
  | m h => exact .m (m (k _ (.head _)) h)
  | l0 h => exact .l0 (k _ (.head _) _ h)
  | ll h nd r => exact .ll (k _ (.head _) _ h) nd (r.imp f g fun l h => k l (.tail _ h))
theorem GsAt.imp (f : ∀ {v : V} {d : D}, Rp B A H v d → Rp B A' H' v d) (g : ∀ {v : List V} {d : List D}, RpL B A H v d → RpL B A' H' v d) (m : ∀ {b : Addr} {kvs : List (D × D)}, (∀ o, H b = some o → H' b = some o) → OwnAt B A H b (.m kvs) → OwnAt B A' H' b (.m kvs)) : ∀ {vs : List (Str × V)} {fs : List (Str × GF)} {ls : List Addr}, (∀ l ∈ ls, ∀ o, H l = some o → H' l = some o) → GsAt B A H vs fs ls → GsAt B A' H' vs fs ls
  | _, _, _, _, .nil => .nil
  | _, _, _, k, .cons h t => .cons (h.imp f g m fun l z => k l (List.mem_append_left _ z)) (GsAt.imp f g m (fun l z => k l (List.mem_append_right _ z)) t)
theorem GmAt.imp (f : ∀ {v : V} {d : D}, Rp B A H v d → Rp B A' H' v d) (g : ∀ {v : List V} {d : List D}, RpL B A H v d → RpL B A' H' v d) (m : ∀ {b : Addr} {kvs : List (D × D)}, (∀ o, H b = some o → H' b = some o) → OwnAt B A H b (.m kvs) → OwnAt B A' H' b (.m kvs)) {a : Addr} {c : Str} {fs : List (Str × GF)} {ls : List Addr} (k : ∀ l, l = a ∨ l ∈ ls → ∀ o, H l = some o → H' l = some o) (h : GmAt B A H a c fs ls) : GmAt B A' H' a c fs ls := by
  obtain ⟨C, dx, vs, e, h, t⟩ := h
  exact ⟨C, dx, vs, e, k a (.inl rfl) _ h, t.imp f g m fun l z => k l (.inr z)⟩
end
/-- where slot i's object keeps its own things: the n slots' own come first -/
def gix (n i j : Nat) : Nat := n * (j + 1) + i
theorem gix_ge {n i j : Nat} : n ≤ gix n i j := by unfold gix; rw [Nat.mul_succ]; omega
def SlR (B : Bs) (A : Addr → Prop) (own : Own) (H : Hp) (σ : Sg) (i : Nat) : Sl → Prop
  | .no => True
  | .v y => ∃ u, σ[i]? = some (some u) ∧ RvV B A H u y
  | .g c a fs => ∃ gs, own i = some a ∧ σ[i]? = some (some (.ref a)) ∧ (∀ j g, gs[j]? = some g → own (gix σ.length i j) = some g) ∧ GmAt B A H a c fs gs
  | x => ∃ a, own i = some a ∧ σ[i]? = some (some (.ref a)) ∧ OwnAt B A H a x
variable {S : Type} [SI S]
structure Rel (B : Bs) (G : Gh) (own : Own) (ρ : Env) (s : S) (σ : Sg) (H : Hp) : Prop where
  wf1 : ∀ a ∈ G.dks, G.A0 a
  wf2 : ∀ a, G.A0 a → H a ≠ none
  fr : ∀ a o, G.H0 a = some o → a ∉ G.dks → H a = some o
  dk : SI.dks s = G.dks
  rs : SI.rep s H
  inj : ∀ i j a, own i = some a → own j = some a → i = j
  fre : ∀ i a, own i = some a → G.H0 a = none ∧ ¬ G.A0 a
  ont : ∀ i a, own i = some a → ∃ o, H a = some o ∧ isTu o = false
  len : ρ.length = σ.length
  sl : ∀ i x, ρ[i]? = some x → SlR B (Av G own) own H σ i x
/-- from H to H' an expression has changed nothing but the state -/
structure Stp (G : Gh) (s' : S) (H H' : Hp) : Prop where
  fr : ∀ a o, H a = some o → a ∉ G.dks → H' a = some o
  dk : SI.dks s' = G.dks
  rs : SI.rep s' H'
section
variable {B : Bs} {G : Gh} {own : Own} {ρ : Env} {s s' s'' : S} {σ : Sg} {H H' H'' : Hp}
theorem OwnAt.kp {A : Addr → Prop} (k : Kp A H H') {a : Addr} (ha : ∀ o, H a = some o → H' a = some o) : ∀ {x : Sl}, OwnAt B A H a x → OwnAt B A H' a x
  | .l _, ⟨xs, h, r⟩ => ⟨xs, ha _ h, RpL.kp k r⟩
  | .m _, .inl ⟨ks, h, r⟩ => .inl ⟨ks, ha _ h, RpM.kp k r⟩
  | .m _, .inr ⟨ks, h, e, r⟩ => .inr ⟨ks, ha _ h, e, RpM.kp k r⟩
  | .no, h => h
  | .v _, h => h
  | .g _ _ _, h => h
  | .q _ _, ⟨C, dx, vs, hc, h, hn, r⟩ => ⟨C, dx, vs, hc, ha _ h, hn, RpL.kp k r⟩
theorem OwnAt.mono {A A' : Addr → Prop} (k : ∀ a, A' a → A a) {a : Addr} : ∀ {x : Sl}, OwnAt B A H a x → OwnAt B A' H a x
  | .l _, ⟨xs, h, r⟩ => ⟨xs, h, RpL.mono k r⟩
  | .m _, .inl ⟨ks, h, r⟩ => .inl ⟨ks, h, RpM.mono k r⟩
  | .m _, .inr ⟨ks, h, e, r⟩ => .inr ⟨ks, h, e, RpM.mono k r⟩
  | .no, h => h
  | .v _, h => h
  | .g _ _ _, h => h
  | .q _ _, ⟨C, dx, vs, hc, h, hn, r⟩ => ⟨C, dx, vs, hc, h, hn, RpL.mono k r⟩
theorem GmAt.kp {A : Addr → Prop} (k : Kp A H H') {a : Addr} {c : Str} {fs : List (Str × GF)} {gs : List Addr} (ha : ∀ l, l = a ∨ l ∈ gs → ∀ o, H l = some o → H' l = some o) (h : GmAt B A H a c fs gs) : GmAt B A H' a c fs gs :=
  h.imp (fun r => Rp.kp k r) (fun r => RpL.kp k r) (fun z r => OwnAt.kp k z r) ha
theorem GmAt.mono {A A' : Addr → Prop} (k : ∀ a, A' a → A a) {a : Addr} {c : Str} {fs : List (Str × GF)} {gs : List Addr} (h : GmAt B A H a c fs gs) : GmAt B A' H a c fs gs :=
  h.imp (fun r => Rp.mono k r) (fun r => RpL.mono k r) (fun _ r => OwnAt.mono k r) fun _ _ _ z => z
theorem gm_own {n i : Nat} {a : Addr} {gs : List Addr} (ho : own i = some a) (hg : ∀ j g, gs[j]? = some g → own (gix n i j) = some g) (l : Addr) (h : l = a ∨ l ∈ gs) : ∃ j, own j = some l := by
  rcases h with rfl | h
  · exact ⟨i, ho⟩
  · obtain ⟨j, hj, e⟩ := List.mem_iff_getElem.mp h
    exact ⟨_, hg j l (by rw [List.getElem?_eq_getElem hj, e])⟩
theorem Rel.dkA (R : Rel B G own ρ s σ H) : ∀ a ∈ G.dks, Av G own a := fun a h => .inl (R.wf1 a h)
theorem Rel.avT (R : Rel B G own ρ s σ H) {a : Addr} (h : Av G own a) : ∃ o, H a = some o := by
  rcases h with h | ⟨i, h⟩
  · have := R.wf2 a h
    cases q : H a with
    | none => exact absurd q this
    | some o => exact ⟨o, rfl⟩
  · obtain ⟨o, e, _⟩ := R.ont i a h
    exact ⟨o, e⟩
theorem Rel.fresh (R : Rel B G own ρ s σ H) {p : Addr} (h : H p = none) : ¬ Av G own p := fun z => by
  obtain ⟨o, e⟩ := R.avT z
  rw [h] at e; cases e
theorem Rel.dkT (R : Rel B G own ρ s σ H) {a : Addr} (h : a ∈ G.dks) : ∃ o, H a = some o ∧ isTu o = false := SI.there s H a R.rs (by rw [R.dk]; exact h)
theorem Rel.kp (R : Rel B G own ρ s σ H) (k : Stp G s' H H') : Kp (Av G own) H H' where
  tup := fun a u t h => k.fr a _ h fun z => by
    obtain ⟨o, e, n⟩ := R.dkT z
    rw [h] at e; cases e; rw [t] at n; cases n
  all := fun a o h n => k.fr a o h fun z => n (R.dkA a z)
theorem Rel.stp (R : Rel B G own ρ s σ H) (k : Stp G s' H H') : Rel B G own ρ s' σ H' := by
  have kp := R.kp k
  have hn : ∀ a o, H a = some o → H' a ≠ none := fun a o h => by
    by_cases z : a ∈ G.dks
    · obtain ⟨o', e, _⟩ := SI.there s' H' a k.rs (by rw [k.dk]; exact z)
      rw [e]; simp
    · rw [k.fr a o h z]; simp
  refine ⟨R.wf1, fun a h => ?_, fun a o h n => k.fr a o (R.fr a o h n) n, k.dk, k.rs, R.inj, R.fre, fun i a h => ?_, R.len, fun i x h => ?_⟩
  · obtain ⟨o, e⟩ := R.avT (.inl h : Av G own a)
    exact hn a o e
  · obtain ⟨o, e, n⟩ := R.ont i a h
    exact ⟨o, k.fr a o e fun z => (R.fre i a h).2 (R.wf1 a z), n⟩
  · have q := R.sl i x h
    have own' : ∀ {x : Sl}, (∃ a, own i = some a ∧ σ[i]? = some (some (V.ref a)) ∧ OwnAt B (Av G own) H a x) → ∃ a, own i = some a ∧ σ[i]? = some (some (V.ref a)) ∧ OwnAt B (Av G own) H' a x := fun {x} ⟨a, ho, hs, hx⟩ =>
      ⟨a, ho, hs, hx.kp kp fun o e => k.fr a o e fun z => (R.fre i a ho).2 (R.wf1 a z)⟩
    cases x with
    | no => trivial
    | v y => obtain ⟨u, e, r⟩ := q; exact ⟨u, e, r.kp kp⟩
    | l ds => exact own' q
    | m kvs => exact own' q
    | g c a fs =>
      obtain ⟨gs, ho, hs, hg, r⟩ := q
      refine ⟨gs, ho, hs, hg, r.kp kp fun l hl o e => k.fr l o e fun z => ?_⟩
      obtain ⟨j, e'⟩ := gm_own ho hg l hl
      exact (R.fre j l e').2 (R.wf1 l z)
    | q _ _ => exact own' q
theorem Stp.trans (a : Stp G s' H H') (b : Stp G s'' H' H'') : Stp G s'' H H'' := ⟨fun c o h n => b.fr c o (a.fr c o h n) n, b.dk, b.rs⟩
theorem Rel.refl (R : Rel B G own ρ s σ H) : Stp G s H H := ⟨fun _ _ h _ => h, R.dk, R.rs⟩
/-- the heap has only grown -/
theorem Rel.same (R : Rel B G own ρ s σ H) (k : Same H H') : Stp G s H H' := by
  refine ⟨fun a o h _ => k a o h, R.dk, SI.keep s H H' R.rs (fun a h => ?_) fun a u _ h => k a u h⟩
  obtain ⟨o, e, _⟩ := SI.there s H a R.rs h
  rw [e]; exact k a o e
theorem same_upd {p : Addr} {o : HO} (h : H p = none) : Same H (upd H p o) := fun b u e => by
  rw [upd_ne (ne_of_none e h)]; exact e
theorem Rel.put (R : Rel B G own ρ s σ H) {p : Addr} {o : HO} (h : H p = none) : Stp G s H (L2.upd H p o) := R.same (same_upd h)
theorem RtV.kp (R : Rel B G own ρ s σ H) (k : Stp G s' H H') {v : V} {y : Val} (h : RtV B (Av G own) G.A0 H v y) : RtV B (Av G own) G.A0 H' v y := by
  have kp := R.kp k
  cases h with
  | of h => exact .of (h.kp kp)
  | lst h n r => exact .lst (k.fr _ _ h fun z => n (R.wf1 _ z)) n (RpL.kp kp r)
  | dic h n r => exact .dic (k.fr _ _ h fun z => n (R.wf1 _ z)) n (RpM.kp kp r)
  | dct h n e r => exact .dct (k.fr _ _ h fun z => n (R.wf1 _ z)) n e (RpM.kp kp r)
end
/-- an exception as it lies: its own dict's address, its fields -/
def ExR (B : Bs) (A : Addr → Prop) (e : Exn) (C : Addr) (od : Option Addr) (H : Hp) : Prop :=
  B.cls e.c = some C ∧ ((e.fs = [] ∧ od = none) ∨ ∃ dx fs', od = some dx ∧ H dx = some (.xd fs') ∧ ∀ p ∈ e.fs, ∃ u, fs'.lookup p.1 = some u ∧ Rp B A H u p.2)
def ExW (B : Bs) (G : Gh) (E : XK) (e : Exn) (s' : S) : Prop :=
  ∀ C od H', (∀ a o, G.H0 a = some o → a ∉ G.dks → H' a = some o) → SI.dks s' = G.dks → SI.rep s' H' → ExR B G.A0 e C od H' → E (.ref C) od H'
/-- how a function ended -/
def Out.sat {α : Type} (o : Out S α) (P : α → S → Prop) (T : Exn → S → Prop) : Prop := match o with
  | .ok y s => P y s
  | .ex e s => T e s
  | .bad => False
theorem Out.sat.bnd {α β : Type} {o : Out S α} {k : α → S → Out S β} {P : β → S → Prop} {T : Exn → S → Prop} (h : (o.bind k).sat P T) : o.sat (fun y s => (k y s).sat P T) T := by
  cases o with
  | bad => exact h
  | ex e s' => exact h
  | ok y s' => exact h
theorem Out.sat.mono {α : Type} {o : Out S α} {P P' : α → S → Prop} {T : Exn → S → Prop} (h : o.sat P T) (i : ∀ y s, P y s → P' y s) : o.sat P' T := by
  cases o with
  | bad => exact h
  | ex e s' => exact h
  | ok y s' => exact i _ _ h
abbrev Ex (S : Type) := Env → S → Out S Val
abbrev Tx (S : Type) := Env → S → Out S Bool
abbrev Exs (S : Type) := Env → S → Out S (List Val)
def tD (B : Bs) (E : XK) (f : Ex S) : TE := fun σ H Q => ∃ G own ρ s, Rel B G own ρ s σ H ∧ (f ρ s).sat (fun y s' => ∀ v H', Stp G s' H H' → RvV B (Av G own) H' v y → Q v H') fun e s' => ExW B G E e s'
def tB (B : Bs) (E : XK) (f : Ex S) : TE := fun σ H Q => ∃ G own ρ s, Rel B G own ρ s σ H ∧ (f ρ s).sat (fun y s' => ∀ v H', Stp G s' H H' → RtV B (Av G own) G.A0 H' v y → Q v H') fun e s' => ExW B G E e s'
def tT (B : Bs) (E : XK) (f : Tx S) : TT := fun σ H Q => ∃ G own ρ s, Rel B G own ρ s σ H ∧ (f ρ s).sat (fun y s' => ∀ H', Stp G s' H H' → Q y H') fun e s' => ExW B G E e s'
/-- argument lists: bb, whether lists of one's own are lent -/
inductive RtL (B : Bs) (A : Addr → Prop) (N : Addr → Prop) (H : Hp) : List V → List Val → Prop
  | nil : RtL B A N H [] []
  | cons {v : V} {y : Val} {vs : List V} {ys : List Val} (h : RtV B A N H v y) (t : RtL B A N H vs ys) : RtL B A N H (v :: vs) (y :: ys)
def tAs (B : Bs) (E : XK) (f : Exs S) : TA := fun σ H Q => ∃ G own ρ s, Rel B G own ρ s σ H ∧ (f ρ s).sat (fun y s' => ∀ v H', Stp G s' H H' → RtL B (Av G own) G.A0 H' v y → Q v H') fun e s' => ExW B G E e s'
abbrev DE (X : Cx) (B : Bs) (E : XK) (e : Expr) (f : Ex S) : Prop := PE X e (tD B E f)
abbrev DB (X : Cx) (B : Bs) (E : XK) (e : Expr) (f : Ex S) : Prop := PE X e (tB B E f)
abbrev DT (X : Cx) (B : Bs) (E : XK) (e : Expr) (f : Tx S) : Prop := PT X e (tT B E f)
abbrev DA (X : Cx) (B : Bs) (E : XK) (es : List Expr) (f : Exs S) : Prop := PA X es (tAs B E f)
theorem pe_imp {X : Cx} {e : Expr} {t t' : TE} (h : PE X e t) (i : ∀ σ H Q, t' σ H Q → t σ H Q) : PE X e t' := ⟨fun pins s σ H Q I q => h.run pins s σ H Q I (i σ H Q q)⟩
theorem pt_imp {X : Cx} {e : Expr} {t t' : TT} (h : PT X e t) (i : ∀ σ H Q, t' σ H Q → t σ H Q) : PT X e t' := ⟨fun pins s σ H Q I q => h.run pins s σ H Q I (i σ H Q q)⟩
theorem pw_imp {X : Cx} {e : Expr} {t t' : TT} (h : PW X e t) (i : ∀ σ H Q, t' σ H Q → t σ H Q) : PW X e t' := ⟨fun wh pins s σ H Q I q => h.run wh pins s σ H Q I (i σ H Q q)⟩
theorem pa_imp {X : Cx} {e : List Expr} {t t' : TA} (h : PA X e t) (i : ∀ σ H Q, t' σ H Q → t σ H Q) : PA X e t' := ⟨fun pos pins s σ H Q I q => h.run pos pins s σ H Q I (i σ H Q q)⟩
theorem ps_imp {X : Cx} {e : Stmt} {t t' : TS} (h : PS X e t) (i : ∀ D σ H, t' D σ H → t D σ H) : PS X e t' := ⟨fun pins s σ H D I q => h.run pins s σ H D I (i D σ H q)⟩
theorem pss_imp {X : Cx} {e : List Stmt} {t t' : TS} (h : PSs X e t) (i : ∀ D σ H, t' D σ H → t D σ H) : PSs X e t' := ⟨fun pins s σ H D I q => h.run pins s σ H D I (i D σ H q)⟩
theorem pi_imp {X : Cx} {tg e : Expr} {t t' : TI} (h : PI X tg e t) (i : ∀ σ H R, t' σ H R → t σ H R) : PI X tg e t' := ⟨fun pins s σ H R I q => h.run pins s σ H R I (i σ H R q)⟩
theorem pi_or {X : Cx} {tg e : Expr} {t t' : TI} (h : PI X tg e t) (h' : PI X tg e t') : PI X tg e (fun σ H R => t σ H R ∨ t' σ H R) := ⟨fun pins s σ H R I q => q.elim (h.run pins s σ H R I) (h'.run pins s σ H R I)⟩
section
variable {X : Cx} {B : Bs} {E : XK} {e a b c : Expr} {f fa fb fc : Ex S} {pos : Pos}
/-- a value as a lent one -/
theorem DE.lent (h : DE X B E e f) : DB X B E e f := pe_imp h fun σ H Q ⟨G, own, ρ, s, R, q⟩ => ⟨G, own, ρ, s, R, q.mono fun y s' q v H' k r => q v H' k (.of r)⟩
/-- one step of a reading -/
theorem tD.run {G : Gh} {own : Own} {ρ : Env} {s : S} {σ : Sg} {H : Hp} {Q : VK} (R : Rel B G own ρ s σ H) (k : Val → S → Prop)
    (h : (f ρ s).sat k fun e s' => ExW B G E e s')
    (hk : ∀ y s' v H', k y s' → Stp G s' H H' → RvV B (Av G own) H' v y → Rel B G own ρ s' σ H' → Q v H') : tD B E f σ H Q := ⟨G, own, ρ, s, R, h.mono fun y s' h => fun v H' st r => hk y s' v H' h st r (R.stp st)⟩
theorem tB.run {G : Gh} {own : Own} {ρ : Env} {s : S} {σ : Sg} {H : Hp} {Q : VK} (R : Rel B G own ρ s σ H) (k : Val → S → Prop)
    (h : (f ρ s).sat k fun e s' => ExW B G E e s')
    (hk : ∀ y s' v H', k y s' → Stp G s' H H' → RtV B (Av G own) G.A0 H' v y → Rel B G own ρ s' σ H' → Q v H') : tB B E f σ H Q := ⟨G, own, ρ, s, R, h.mono fun y s' h => fun v H' st r => hk y s' v H' h st r (R.stp st)⟩
theorem tT.run {f : Tx S} {G : Gh} {own : Own} {ρ : Env} {s : S} {σ : Sg} {H : Hp} {Q : Bool → Hp → Prop} (R : Rel B G own ρ s σ H) (k : Bool → S → Prop)
    (h : (f ρ s).sat k fun e s' => ExW B G E e s')
    (hk : ∀ y s' H', k y s' → Stp G s' H H' → Rel B G own ρ s' σ H' → Q y H') : tT B E f σ H Q := ⟨G, own, ρ, s, R, h.mono fun y s' h => fun H' st => hk y s' H' h st (R.stp st)⟩
theorem tAs.run {f : Exs S} {G : Gh} {own : Own} {ρ : Env} {s : S} {σ : Sg} {H : Hp} {Q : List V → Hp → Prop} (R : Rel B G own ρ s σ H) (k : List Val → S → Prop)
    (h : (f ρ s).sat k fun e s' => ExW B G E e s')
    (hk : ∀ y s' v H', k y s' → Stp G s' H H' → RtL B (Av G own) G.A0 H' v y → Rel B G own ρ s' σ H' → Q v H') : tAs B E f σ H Q := ⟨G, own, ρ, s, R, h.mono fun y s' h => fun v H' st r => hk y s' v H' h st r (R.stp st)⟩
def eVar (i : Nat) : Ex S := fun ρ s => match ρ[i]? with
  | some (.v y) => .ok y s
  | _ => .bad
def bVar (i : Nat) : Ex S := fun ρ s => match ρ[i]? with
  | some (.v y) => .ok y s
  | some (.l ds) => .ok (.d (.list ds)) s
  | some (.m ds) => .ok (.d (.dict ds)) s
  | _ => .bad
def eC (d : D) : Ex S := fun _ s => .ok (.d d) s
theorem de_var (i : Nat) (h : PE X e (tVar i)) : DE X B E e (eVar i : Ex S) := by
  refine pe_imp h fun σ H Q ⟨G, own, ρ, s, R, q⟩ => ?_
  unfold eVar at q
  cases z : ρ[i]? with
  | none => rw [z] at q; exact q.elim
  | some x =>
    rw [z] at q
    have p := R.sl i x z
    cases x with
    | v y =>
      obtain ⟨u, e, r⟩ := p
      exact ⟨u, e, q u H R.refl r⟩
    | no => exact q.elim
    | l _ => exact q.elim
    | m _ => exact q.elim
    | g _ _ _ => exact q.elim
    | q _ _ => exact q.elim
theorem db_var (i : Nat) (h : PE X e (tVar i)) : DB X B E e (bVar i : Ex S) := by
  refine pe_imp h fun σ H Q ⟨G, own, ρ, s, R, q⟩ => ?_
  unfold bVar at q
  cases z : ρ[i]? with
  | none => rw [z] at q; exact q.elim
  | some x =>
    rw [z] at q
    have p := R.sl i x z
    have nd : ∀ a, own i = some a → ¬ G.A0 a := fun a ho => (R.fre i a ho).2
    cases x with
    | v y =>
      obtain ⟨u, e, r⟩ := p
      exact ⟨u, e, q u H R.refl (.of r)⟩
    | no => exact q.elim
    | l ds =>
      obtain ⟨a, ho, hs, xs, hx, r⟩ := p
      exact ⟨_, hs, q _ H R.refl (.lst hx (nd a ho) r)⟩
    | m kvs =>
      obtain ⟨a, ho, hs, p⟩ := p
      rcases p with ⟨ks, hx, r⟩ | ⟨ks, hx, e, r⟩
      · exact ⟨_, hs, q _ H R.refl (.dic hx (nd a ho) r)⟩
      · exact ⟨_, hs, q _ H R.refl (.dct hx (nd a ho) e r)⟩
    | g _ _ _ => exact q.elim
    | q _ _ => exact q.elim
theorem de_c {v : V} {d : D} (h : PE X e (tC v)) (r : ∀ A H, Rp B A H v d) : DE X B E e (eC d : Ex S) := by
  refine pe_imp h fun σ H Q ⟨G, own, ρ, s, R, q⟩ => ?_
  exact q v H R.refl (r _ H)
theorem de_int {i : Int} {j : Nat} : DE X B E (.Constant (.int i) j pos) (eC (.int i) : Ex S) := de_c pe_int fun _ _ => .int i
theorem de_bl {i : Bool} {j : Nat} : DE X B E (.Constant (.bool i) j pos) (eC (.bool i) : Ex S) := de_c pe_bl fun _ _ => .bl i
theorem de_non {j : Nat} : DE X B E (.Constant .none j pos) (eC .none : Ex S) := de_c pe_non fun _ _ => .non
theorem de_str {x : Str} {j : Nat} : DE X B E (.Constant (.str x) j pos) (eC (.str x) : Ex S) := de_c pe_str fun _ _ => .str x
def eBin (op : D → D → Option D) (fa fb : Ex S) : Ex S := fun ρ s => (fa ρ s).bind fun x s1 => (fb ρ s1).bind fun y s2 => match x, y with
  | .d p, .d q => (match op p q with
    | some r => .ok (.d r) s2
    | none => .bad)
  | _, _ => .bad
/-- what an operation by values must do: the heap grows, the result stands for its data -/
def OpD (B : Bs) (r : R2) (op : D → D → Option D) : Prop := ∀ (A : Addr → Prop) (N : Addr → Prop) (H : Hp) (x y : V) (p q z : D) (Q : VK),
  (∀ p, H p = none → ¬ A p) → op p q = some z → RtV B A N H x (.d p) → RtV B A N H y (.d q) → (∀ v H', Same H H' → Rp B A H' v z → Q v H') → r x y H Q
theorem de_bin {op : D → D → Option D} {r : R2} (hr : OpD B r op) (h : PE X e (tOp r (tB B E fa) (tB B E fb))) : DE X B E e (eBin op fa fb) := by
  refine pe_imp h fun σ H Q ⟨G, own, ρ, s, R, q⟩ => ?_
  refine tB.run R _ q.bnd fun y s1 v H1 q1 k1 r1 R1 => ?_
  refine tB.run R1 _ q1.bnd fun z s2 w H2 q2 k2 r2 R2 => ?_
  cases y with
  | r _ => exact q2.elim
  | o _ _ => exact q2.elim
  | p _ => exact q2.elim
  | f _ => exact q2.elim
  | d p =>
    cases z with
    | r _ => exact q2.elim
    | o _ _ => exact q2.elim
    | p _ => exact q2.elim
    | f _ => exact q2.elim
    | d q =>
      cases hz : op p q with
      | none => simp only [hz] at q2; exact q2.elim
      | some d =>
        simp only [hz] at q2
        exact hr _ G.A0 H2 v w p q d Q (fun _ hp => R2.fresh hp) hz (r1.kp R1 k2) r2 fun u H3 sm rp => q2 u H3 ((k1.trans k2).trans (R2.same sm)) rp
/-- one part, and an operation by values -/
def eUn (op : D → Option D) (fa : Ex S) : Ex S := fun ρ s => (fa ρ s).bind fun x s1 => match x with
  | .d p => (match op p with
    | some r => .ok (.d r) s1
    | none => .bad)
  | _ => .bad
def UnD (B : Bs) (r : V → Hp → VK → Prop) (op : D → Option D) : Prop := ∀ (A : Addr → Prop) (N : Addr → Prop) (H : Hp) (x : V) (p z : D) (Q : VK),
  (∀ p, H p = none → ¬ A p) → op p = some z → RtV B A N H x (.d p) → (∀ v H', Same H H' → Rp B A H' v z → Q v H') → r x H Q
theorem de_un {op : D → Option D} {r : V → Hp → VK → Prop} (hr : UnD B r op) (h : PE X e (tUn r (tB B E fa))) : DE X B E e (eUn op fa) := by
  refine pe_imp h fun σ H Q ⟨G, own, ρ, s, R, q⟩ => ?_
  refine tB.run R _ q.bnd fun y s1 v H1 q1 k1 r1 R1 => ?_
  cases y with
  | r _ => exact q1.elim
  | o _ _ => exact q1.elim
  | p _ => exact q1.elim
  | f _ => exact q1.elim
  | d p =>
    cases hz : op p with
    | none => simp only [hz] at q1; exact q1.elim
    | some d =>
      simp only [hz] at q1
      exact hr _ G.A0 H1 v p d Q (fun _ hp => R1.fresh hp) hz r1 fun u H3 sm rp => q1 u H3 (k1.trans (R1.same sm)) rp
def aNil : Exs S := fun _ s => .ok [] s
def aCons (f : Ex S) (g : Exs S) : Exs S := fun ρ s => (f ρ s).bind fun x s1 => (g ρ s1).bind fun xs s2 => .ok (x :: xs) s2
theorem da_nil : DA X B E [] (aNil : Exs S) := by
  refine pa_imp pa_nil fun σ H Q ⟨G, own, ρ, s, R, q⟩ => ?_
  exact q [] H R.refl .nil
theorem da_cons {es : List Expr} {g : Exs S} (h : DB X B E e f) (hs : DA X B E es g) (hst : starEach (e :: es) X.env = (false, eval e X.env) :: starEach es X.env := by rfl) : DA X B E (e :: es) (aCons f g) := by
  refine pa_imp (pa_cons h hs hst) fun σ H Q ⟨G, own, ρ, s, R, q⟩ => ?_
  refine tB.run R _ q.bnd fun y s1 v H1 q1 k1 r1 R1 => ?_
  refine tAs.run R1 _ q1.bnd fun z s2 w H2 q2 k2 r2 R2 => ?_
  exact q2 _ _ (k1.trans k2) (.cons (r1.kp R1 k2) r2)
end
end DL
namespace DL
open PySem PySem.Spec PyProof.Rows L2
variable {S : Type} [SI S]
section
variable {B : Bs} {A : Addr → Prop} {N : Addr → Prop} {H : Hp} {x : V}
theorem rt_int {i : Int} (h : RtV B A N H x (.d (.int i))) : x = .int i := by
  cases h with
  | of h => cases h; rfl
theorem rt_bl {i : Bool} (h : RtV B A N H x (.d (.bool i))) : x = .bl i := by
  cases h with
  | of h => cases h; rfl
theorem rt_non (h : RtV B A N H x (.d .none)) : x = .non := by
  cases h with
  | of h => cases h; rfl
theorem rt_str {i : Str} (h : RtV B A N H x (.d (.str i))) : x = .str i := by
  cases h with
  | of h => cases h; rfl
theorem rt_tup {ds : List D} (h : RtV B A N H x (.d (.tuple ds))) : ∃ a xs, x = .ref a ∧ Tp B.K H a xs ∧ RpL B A H xs ds := by
  cases h with
  | of h => cases h with
    | tup h r => exact ⟨_, _, rfl, h, r⟩
theorem rt_lst {ds : List D} (h : RtV B A N H x (.d (.list ds))) : ∃ a xs, x = .ref a ∧ H a = some (.lst xs) ∧ RpL B A H xs ds := by
  cases h with
  | of h => cases h with
    | lst h n r => exact ⟨_, _, rfl, h, r⟩
  | lst h n r => exact ⟨_, _, rfl, h, r⟩
theorem rt_dp {d : D} (h : RtV B A N H x (.d d)) (c : d.canLay0 = true) : Dp B.K H x d := by
  cases h with
  | of h => exact Rp.dp h c
  | lst h n r => exact .lst (SqL.of h) (RpL.dp r (by simpa [PyData.canLay0] using c))
  | dic _ _ _ => simp [PyData.canLay0] at c
  | dct _ _ _ _ => simp [PyData.canLay0] at c
/-- a heap that has grown -/
theorem kp_same {H' : Hp} (k : Same H H') : Kp A H H' := ⟨fun a u _ h => k a u h, fun a o h _ => k a o h⟩
theorem new_tup {p : Addr} {xs : List V} {ds : List D} (hp : H p = none) (r : RpL B A H xs ds) : Rp B A (upd H p (.tup xs)) (.ref p) (.tuple ds) :=
  .tup (Tp.of upd_same) (RpL.kp (kp_same (same_upd hp)) r)
theorem new_lst {p : Addr} {xs : List V} {ds : List D} (hp : H p = none) (n : ¬ A p) (r : RpL B A H xs ds) : Rp B A (upd H p (.lst xs)) (.ref p) (.list ds) :=
  .lst upd_same n (RpL.kp (kp_same (same_upd hp)) r)
end
def opAdd : D → D → Option D
  | .int a, .int b => some (.int (a + b))
  | .tuple a, .tuple b => if a.length + b.length ≤ sizeLine then some (.tuple (a ++ b)) else none
  | .list a, .list b => if a.length + b.length ≤ sizeLine then some (.list (a ++ b)) else none
  | .str a, .str b => if a.length + b.length ≤ sizeLine then some (.str (a ++ b)) else none
  | _, _ => none
abbrev rAddA (K : PySem.W.Frag) : R2 := fun x y H Q => (rI0 fun i j => .int (i + j)) x y H Q ∨ (fun x y H Q => rCatA K x y H Q ∨ (fun x y H Q => rCat x y H Q ∨
  (fun x y H Q => ∃ i j, x = .str i ∧ y = .str j ∧ i.length + j.length ≤ sizeLine ∧ Q (.str (i ++ j)) H : R2) x y H Q) x y H Q) x y H Q
theorem op_addA {X : Cx} : OpR X (binaryOp .Add) (rAddA X.K) := op_add.or (op_catA.or (op_cat.or op_add_str))
theorem od_add {B : Bs} : OpD B (rAddA B.K) opAdd := by
  intro A N H x y p q z Q fr hz hx hy k
  unfold opAdd at hz
  split at hz
  · cases hz
    exact .inl ⟨_, _, rt_int hx, rt_int hy, k _ H (Same.refl H) (.int _)⟩
  · split at hz
    · rename_i a b hl
      cases hz
      obtain ⟨u, xs, rfl, tx, rx⟩ := rt_tup hx
      obtain ⟨w, ys, rfl, ty, ry⟩ := rt_tup hy
      refine .inr (.inl ⟨u, w, xs, ys, rfl, rfl, tx.sq, ty.sq, by rw [rx.len, ry.len]; exact hl, fun e => ?_, fun _ e => ?_, fun _ _ p hp => ?_⟩)
      · subst e
        cases rx
        exact k _ H (Same.refl H) (.tup ty ry)
      · subst e
        cases ry
        exact k _ H (Same.refl H) (.tup tx (by rw [List.append_nil]; exact rx))
      · exact k _ _ (same_upd hp) (new_tup hp (rx.app ry))
    · cases hz
  · split at hz
    · rename_i a b hl
      cases hz
      obtain ⟨u, xs, rfl, tx, rx⟩ := rt_lst hx
      obtain ⟨w, ys, rfl, ty, ry⟩ := rt_lst hy
      exact .inr (.inr (.inl ⟨u, w, xs, ys, rfl, rfl, tx, ty, by rw [rx.len, ry.len]; exact hl, fun p hp => k _ _ (same_upd hp) (new_lst hp (fr p hp) (rx.app ry))⟩))
    · cases hz
  · split at hz
    · rename_i a b hl
      cases hz
      exact .inr (.inr (.inr ⟨_, _, rt_str hx, rt_str hy, hl, k _ H (Same.refl H) (.str _)⟩))
    · cases hz
  · cases hz
def opSub : D → D → Option D
  | .int a, .int b => some (.int (a - b))
  | _, _ => none
theorem od_sub {B : Bs} : OpD B (rI0 fun i j => .int (i - j)) opSub := by
  intro A N H x y p q z Q fr hz hx hy k
  unfold opSub at hz
  split at hz
  · cases hz
    exact ⟨_, _, rt_int hx, rt_int hy, k _ H (Same.refl H) (.int _)⟩
  · cases hz
/-- both factors bounded together -/
def mulOk (a b : Int) : Bool := decide ((-(2 ^ 64) < a ∧ a < 2 ^ 64) ∨ (-(2 ^ 64) < b ∧ b < 2 ^ 64))
theorem tmul_none (l : Addr) (items : Array Value) (n : Nat) (dd : Option Addr) (sl : Array (Option Value)) (x : Int) (u : Tok) (c0 : (decide (x < -(2 ^ 63)) || decide (x ≥ 2 ^ 63)) = false) (c1 : (items.isEmpty || x == 1) = false) (c2 : (decide (x ≤ 0) || items.isEmpty) = true) :
    Meets (Builtin.«tuple.__mul__» ⟨[.ref l, .int x u], []⟩) (fun _ R s => s.heap.get? l = some { cls := .type "tuple", dict := dd, data := .seq items n, slots := sl } ∧
      R (.ok (.ret (Value.ref s.heap.objs.size))) { s with heap := s.heap.push { cls := Value.type "tuple", data := Data.seq #[] }, toks := s.toks }) :=
  .of_wp fun prog w A R s h => by
    obtain ⟨hp, g, d, tk, os⟩ := s
    obtain ⟨hl, h⟩ := h
    have f1 := AutoSeq1.idx_int
    wp_walk using wpAny_loadPart' hl
    repeat (first
      | (refine wpAny_ite_false (decide_eq_false (by rw [c0]; exact Bool.false_ne_true)) ?_; wp_walk using wpAny_loadPart' hl)
      | (refine wpAny_ite_false (decide_eq_false (by rw [c1]; exact Bool.false_ne_true)) ?_; wp_walk using wpAny_loadPart' hl)
      | (refine wpAny_ite_true (decide_eq_true c2) ?_; wp_walk using wpAny_loadPart' hl))
    exact ⟨_, rfl, h⟩
theorem tmul_same (l : Addr) (items : Array Value) (n : Nat) (dd : Option Addr) (sl : Array (Option Value)) (x : Int) (u : Tok) (c0 : (decide (x < -(2 ^ 63)) || decide (x ≥ 2 ^ 63)) = false) (c1 : (items.isEmpty || x == 1) = true) :
    Meets (Builtin.«tuple.__mul__» ⟨[.ref l, .int x u], []⟩) (fun _ R s => s.heap.get? l = some { cls := .type "tuple", dict := dd, data := .seq items n, slots := sl } ∧
      R (.ok (.ret (Value.ref l))) s) :=
  .of_wp fun prog w A R s h => by
    obtain ⟨hp, g, d, tk, os⟩ := s
    obtain ⟨hl, h⟩ := h
    have f1 := AutoSeq1.idx_int
    wp_walk using wpAny_loadPart' hl
    repeat (first
      | (refine wpAny_ite_false (decide_eq_false (by rw [c0]; exact Bool.false_ne_true)) ?_; wp_walk using wpAny_loadPart' hl)
      | (refine wpAny_ite_true (decide_eq_true c1) ?_; wp_walk using wpAny_loadPart' hl))
    exact ⟨_, rfl, h⟩
/-- a tuple not at all, or once -/
def rRepZ (K : PySem.W.Frag) : R2 := fun x y H Q => ∃ l k xs, x = .ref l ∧ y = .int k ∧ SqT K H l xs ∧ xs ≠ [] ∧ -1000 ≤ k ∧ k ≤ 0 ∧ ∀ p, H p = none → Q (.ref p) (upd H p (.tup []))
def rRepS (K : PySem.W.Frag) : R2 := fun x y H Q => ∃ l k xs, x = .ref l ∧ y = .int k ∧ SqT K H l xs ∧ -1000 ≤ k ∧ k ≤ 4000 ∧ (xs = [] ∨ k = 1) ∧ Q (.ref l) H
theorem op_repZ {X : Cx} : OpR X (binaryOp .Mult) (rRepZ X.K) := by
  intro pins s σ H x y v u Q I rx ry h
  obtain ⟨l, k, xs, rfl, rfl, hT, hne, h1, h2, q⟩ := h
  cases rx
  obtain ⟨t, rfl⟩ := ry
  obtain ⟨its, r, ⟨⟨cls, dd, data, sl⟩, ho, hc, n, hd⟩, hs⟩ := I.tuple hT
  simp only at hc hd
  subst hc hd
  have hle : its.length = xs.length := r.length.symm
  have hn : its ≠ [] := fun e => hne (by
    rw [e] at hle
    exact List.eq_nil_of_length_eq_zero hle.symm)
  have hi : its.toArray.isEmpty = false := by
    cases its with
    | nil => exact absurd rfl hn
    | cons a b => rfl
  have c0 : (decide (k < -(2 ^ 63)) || decide (k ≥ 2 ^ 63)) = false := by
    rw [decide_eq_false (by omega), decide_eq_false (by omega)] <;> rfl
  have c1 : (its.toArray.isEmpty || k == 1) = false := by
    rw [hi, Bool.false_or]
    exact beq_eq_false_iff_ne.mpr (by omega)
  have c2 : (decide (k ≤ 0) || its.toArray.isEmpty) = true := by
    rw [decide_eq_true h2]; rfl
  refine wpAny_binaryOp_repeat_ref (T := "tuple") (U := "int") (by decide) ⟨_, ho, rfl⟩ (fun s' => typeIs_int s' k t) noFill_tuple_mul F.fills_int_mul F.slot_int_rmul repeat_tuple F.slot_int_index.lookup
    (call_meets F.slot_int_rmul (typeIs_int s k t) F.entry_int_rmul (F.args_int_rmul_2 _ _) (int_rmul_tuple k t l its.toArray n dd sl)
      ⟨ho, rfl, ⟨_, ho, rfl⟩, call_meets F.slot_tuple_mul ⟨_, ho, rfl⟩ F.entry_tuple_mul (F.args_tuple_mul_2 _ _) (tmul_none l its.toArray n dd sl k t c0 c1 c2) ⟨ho, ?_⟩⟩)
  refine ⟨.ref s.heap.objs.size, _, I.laid (t' := s.toks) (o := .tup []) (fun b ob q => Heap.get?_push_of_some _ q) (Nat.le_refl _) ?_, rfl, q _ (I.hok.fresh (Nat.le_refl _))⟩
  exact ⟨Nat.zero_le _, [], .nil, IsTup.new _ _⟩
theorem op_repS {X : Cx} : OpR X (binaryOp .Mult) (rRepS X.K) := by
  intro pins s σ H x y v u Q I rx ry h
  obtain ⟨l, k, xs, rfl, rfl, hT, h1, h2, hx, q⟩ := h
  cases rx
  obtain ⟨t, rfl⟩ := ry
  obtain ⟨its, r, ⟨⟨cls, dd, data, sl⟩, ho, hc, n, hd⟩, hs⟩ := I.tuple hT
  simp only at hc hd
  subst hc hd
  have hle : its.length = xs.length := r.length.symm
  have c0 : (decide (k < -(2 ^ 63)) || decide (k ≥ 2 ^ 63)) = false := by
    rw [decide_eq_false (by omega), decide_eq_false (by omega)] <;> rfl
  have c1 : (its.toArray.isEmpty || k == 1) = true := by
    rcases hx with rfl | rfl
    · rw [List.eq_nil_of_length_eq_zero hle]; rfl
    · exact Bool.or_true _
  refine wpAny_binaryOp_repeat_ref (T := "tuple") (U := "int") (by decide) ⟨_, ho, rfl⟩ (fun s' => typeIs_int s' k t) noFill_tuple_mul F.fills_int_mul F.slot_int_rmul repeat_tuple F.slot_int_index.lookup
    (call_meets F.slot_int_rmul (typeIs_int s k t) F.entry_int_rmul (F.args_int_rmul_2 _ _) (int_rmul_tuple k t l its.toArray n dd sl)
      ⟨ho, rfl, ⟨_, ho, rfl⟩, call_meets F.slot_tuple_mul ⟨_, ho, rfl⟩ F.entry_tuple_mul (F.args_tuple_mul_2 _ _) (tmul_same l its.toArray n dd sl k t c0 c1) ⟨ho, ?_⟩⟩)
  exact ⟨.ref l, _, I, rfl, q⟩
/-- what a product of a length and a number of times must be -/
theorem rep_side {n : Nat} {k : Int} (h0 : 0 < n) (h1 : 2 ≤ k ∧ k ≤ 4000) (hn : n ≤ 1000) :
    (n : Int) * k ≤ 4000000 ∧ k.toNat * n ≤ 4000000 ∧ (decide (k < -(2 ^ 63)) || decide (k ≥ 2 ^ 63)) = false ∧ (k == 1) = false ∧ decide (k ≤ 0) = false := by
  have a := Int.mul_le_mul (show (n : Int) ≤ 1000 by omega) h1.2 (by omega) (by decide)
  have b := Nat.mul_le_mul (show k.toNat ≤ 4000 by omega) hn
  refine ⟨by omega, by omega, ?_, beq_eq_false_iff_ne.mpr (by omega), decide_eq_false (by omega)⟩
  rw [decide_eq_false (show ¬ k < -(2 ^ 63) by omega), decide_eq_false (show ¬ k ≥ 2 ^ 63 by omega)]
  rfl
/-- a tuple some times, up to 4000 -/
def rRepT4 (K : PySem.W.Frag) : R2 := fun x y H Q => ∃ l k xs, x = .ref l ∧ y = .int k ∧ SqT K H l xs ∧ 0 < xs.length ∧ (2 ≤ k ∧ k ≤ 4000) ∧ xs.length ≤ 1000 ∧ ∀ p, H p = none → Q (.ref p) (upd H p (.tup (List.replicate k.toNat xs).flatten))
theorem op_repT4 {X : Cx} : OpR X (binaryOp .Mult) (rRepT4 X.K) := by
  intro pins s σ H _ _ _ _ Q I rx ry ⟨l, k, xs, ex, ey, hT, hp, hk, hz, q⟩
  subst ex ey
  obtain rfl := show _ = Value.ref l from rx
  obtain ⟨tk, rfl⟩ := ry
  obtain ⟨its, r, ht, _⟩ := I.tuple hT
  obtain ⟨⟨c, dd, da, sl⟩, ho, e1, n, e2⟩ := id ht
  dsimp only at e1 e2
  subst e1 e2
  have hlen := r.length
  have hsz : its.toArray.size = xs.length := by simp [hlen]
  obtain ⟨b1, b2, b3, b4, b5⟩ := rep_side hp hk hz
  have hem : its.toArray.isEmpty = false := by
    rw [Array.isEmpty_eq_false_iff]
    intro e
    rw [e] at hsz
    simp at hsz
    omega
  have hfl : (List.replicate k.toNat its).flatten.length ≤ 4000000 := by
    rw [PyProof.Rows.lm_len_rep_flat, ← hlen]
    exact b2
  have big : 4000000 < sizeLine := by rw [sizeLine_eq]; decide
  have mu := tuple_mulW l its.toArray n dd sl k tk b3 (by rw [hem, b4]; rfl) (by rw [b5, hem]; rfl) (by rw [hsz]; omega)
    (by unfold Builtin.Tuple.tupleTooMany; rw [hsz]; exact decide_eq_false (by rw [sizeLine_eq]; omega)) (by rw [size_rep, List.size_toArray]; omega)
  have goal := I.laid (t' := s.toks) (h' := s.heap.push { cls := .type "tuple", data := .seq (List.replicate k.toNat its).flatten.toArray }) (o := .tup (List.replicate k.toNat xs).flatten)
    (fun _ _ z => Heap.get?_push_of_some _ z) (Nat.le_refl _) ⟨by rw [PyProof.Rows.lm_len_rep_flat]; omega, _, r.rep k.toNat, IsTup.new _ _⟩
  refine wpAny_binaryOp_repeat_ref (T := "tuple") (U := "int") (by decide) ⟨_, ho, rfl⟩ (fun s' => typeIs_int s' k tk) noFill_tuple_mul F.fills_int_mul F.slot_int_rmul
    repeat_tuple F.slot_int_index.lookup ?_
  refine call_meets F.slot_int_rmul (typeIs_int s k tk) F.entry_int_rmul (F.args_int_rmul_2 _ _) (int_rmul_tuple k tk l its.toArray n dd sl) ⟨ho, rfl, ⟨_, ho, rfl⟩, ?_⟩
  refine call_meets F.slot_tuple_mul ⟨_, ho, rfl⟩ F.entry_tuple_mul (F.args_tuple_mul_2 _ _) mu ⟨ho, ?_⟩
  rw [size_rep]
  exact ⟨.ref s.heap.objs.size, _, goal, rfl, q _ (I.hok.fresh (Nat.le_refl _))⟩
/-- a tuple, a list times a number -/
def opMul : D → D → Option D
  | .int a, .int b => if mulOk a b then some (.int (a * b)) else none
  | .tuple a, .int k => if -1000 ≤ k ∧ k ≤ 4000 ∧ a.length ≤ 1000 then some (.tuple (List.replicate k.toNat a).flatten) else none
  | .list a, .int k => if -(2 ^ 63) ≤ k ∧ k < 2 ^ 63 ∧ a.length * k.toNat ≤ sizeLine then some (.list (List.replicate k.toNat a).flatten) else none
  | _, _ => none
theorem RpL.rep {B : Bs} {A : Addr → Prop} {H : Hp} {xs : List V} {ds : List D} (r : RpL B A H xs ds) : ∀ k : Nat, RpL B A H (List.replicate k xs).flatten (List.replicate k ds).flatten
  | 0 => by simpa using RpL.nil
  | k + 1 => by
    rw [List.replicate_succ, List.replicate_succ, List.flatten_cons, List.flatten_cons]
    exact r.app (RpL.rep r k)
abbrev rMulA (K : PySem.W.Frag) : R2 := fun x y H Q => (rI CMul fun i j => .int (i * j)) x y H Q ∨ (fun x y H Q => rRepT4 K x y H Q ∨ (fun x y H Q => rRep x y H Q ∨ (fun x y H Q => rRepZ K x y H Q ∨ rRepS K x y H Q : R2) x y H Q : R2) x y H Q : R2) x y H Q
theorem op_mulA {X : Cx} : OpR X (binaryOp .Mult) (rMulA X.K) := op_mul.or (op_repT4.or (op_rep.or (op_repZ.or op_repS)))
theorem od_mul {B : Bs} : OpD B (rMulA B.K) opMul := by
  intro A N H x y p q z Q fr hz hx hy k
  unfold opMul at hz
  split at hz
  · split at hz
    · rename_i a b hm
      cases hz
      exact .inl ⟨_, _, rt_int hx, rt_int hy, (by unfold mulOk at hm; rw [decide_eq_true_eq] at hm; exact hm), k _ H (Same.refl H) (.int _)⟩
    · cases hz
  · split at hz
    · rename_i a n hm
      cases hz
      obtain ⟨u, xs, rfl, tx, rx⟩ := rt_tup hx
      by_cases h1 : xs = [] ∨ n = 1
      · refine .inr (.inr (.inr (.inr ⟨u, n, xs, rfl, rt_int hy, tx.sq, hm.1, hm.2.1, h1, k _ H (Same.refl H) ?_⟩)))
        rcases h1 with rfl | rfl
        · cases rx
          have e : (List.replicate n.toNat ([] : List D)).flatten = [] := by simp
          rw [e]
          exact .tup tx .nil
        · have e : (List.replicate (1 : Int).toNat a).flatten = a := by
            show (List.replicate 1 a).flatten = a
            simp
          rw [e]
          exact .tup tx rx
      · by_cases h2 : n ≤ 0
        · refine .inr (.inr (.inr (.inl ⟨u, n, xs, rfl, rt_int hy, tx.sq, fun e => h1 (.inl e), hm.1, h2, fun p hp => k _ _ (same_upd hp) ?_⟩)))
          have e : n.toNat = 0 := by omega
          rw [e]
          exact new_tup hp .nil
        · exact .inr (.inl ⟨u, n, xs, rfl, rt_int hy, tx.sq, List.length_pos_iff.mpr fun e => h1 (.inl e), ⟨(by have := fun e => h1 (.inr e); omega), hm.2.1⟩, by rw [rx.len]; exact hm.2.2, fun p hp => k _ _ (same_upd hp) (new_tup hp (rx.rep _))⟩)
    · cases hz
  · split at hz
    · rename_i a n hm
      cases hz
      obtain ⟨u, xs, rfl, tx, rx⟩ := rt_lst hx
      exact .inr (.inr (.inl ⟨u, n, xs, rfl, rt_int hy, tx, hm.1, hm.2.1, by rw [rx.len]; exact hm.2.2, fun p hp => k _ _ (same_upd hp) (new_lst hp (fr p hp) (rx.rep _))⟩))
    · cases hz
  · cases hz
/-- of small positive divisors -/
def opDiv : D → D → Option D
  | .int a, .int b => if 0 < b ∧ b < 1073741824 then some (.int (a / b)) else none
  | _, _ => none
theorem od_div {B : Bs} : OpD B (rI CDiv fun i j => .int (i / j)) opDiv := by
  intro A N H x y p q z Q fr hz hx hy k
  unfold opDiv at hz
  split at hz
  · split at hz
    · rename_i a b hm
      cases hz
      exact ⟨_, _, rt_int hx, rt_int hy, hm, k _ H (Same.refl H) (.int _)⟩
    · cases hz
  · cases hz
def opMod : D → D → Option D
  | .int a, .int b => if 0 < b then some (.int (a % b)) else none
  | _, _ => none
theorem od_mod {B : Bs} : OpD B (rI (fun _ j => 0 < j) fun i j => .int (i % j)) opMod := by
  intro A N H x y p q z Q fr hz hx hy k
  unfold opMod at hz
  split at hz
  · split at hz
    · rename_i a b hm
      cases hz
      exact ⟨_, _, rt_int hx, rt_int hy, hm, k _ H (Same.refl H) (.int _)⟩
    · cases hz
  · cases hz
def opPow : D → D → Option D
  | .int a, .int b => if 0 ≤ b ∧ b ≤ 1000000 ∧ a.natAbs < 2 ^ 64 then some (.int (a ^ b.toNat)) else none
  | _, _ => none
theorem od_pow {B : Bs} : OpD B (rI CPow fun i j => .int (i ^ j.toNat)) opPow := by
  intro A N H x y p q z Q fr hz hx hy k
  unfold opPow at hz
  split at hz
  · split at hz
    · rename_i a b hm
      cases hz
      exact ⟨_, _, rt_int hx, rt_int hy, hm, k _ H (Same.refl H) (.int _)⟩
    · cases hz
  · cases hz
def opNeg : D → Option D
  | .int a => some (.int (-a))
  | _ => none
theorem ud_neg {B : Bs} : UnD B (rU fun i => .int (-i)) opNeg := by
  intro A N H x p z Q fr hz hx k
  unfold opNeg at hz
  split at hz
  · cases hz
    exact ⟨_, rt_int hx, k _ H (Same.refl H) (.int _)⟩
  · cases hz
def opRel (f : Int → Int → Bool) : D → D → Option D
  | .int a, .int b => some (.bool (f a b))
  | _, _ => none
theorem od_rel {B : Bs} {f : Int → Int → Bool} : OpD B (rI0 fun i j => .bl (f i j)) (opRel f) := by
  intro A N H x y p q z Q fr hz hx hy k
  unfold opRel at hz
  split at hz
  · cases hz
    exact ⟨_, _, rt_int hx, rt_int hy, k _ H (Same.refl H) (.bl _)⟩
  · cases hz
def opEq : D → D → Option D := fun d e => if SeqAt.shaped d && SeqAt.shaped e then some (.bool (PyData.eqv d e)) else none
theorem od_eq {B : Bs} : OpD B (rEqD B.K) opEq := by
  intro A N H x y p q z Q fr hz hx hy k
  unfold opEq at hz
  split at hz
  · rename_i h
    cases hz
    rw [Bool.and_eq_true] at h
    exact ⟨p, q, rt_dp hx (SeqAt.canLay_of_shaped h.1), rt_dp hy (SeqAt.canLay_of_shaped h.2), h.1, h.2, k _ H (Same.refl H) (.bl _)⟩
  · cases hz
def opNe : D → D → Option D := fun d e => if SeqAt.shaped d && SeqAt.shaped e then some (.bool (!PyData.eqv d e)) else none
theorem od_ne {B : Bs} : OpD B (rNeD B.K) opNe := by
  intro A N H x y p q z Q fr hz hx hy k
  unfold opNe at hz
  split at hz
  · rename_i h
    cases hz
    rw [Bool.and_eq_true] at h
    exact ⟨p, q, rt_dp hx (SeqAt.canLay_of_shaped h.1), rt_dp hy (SeqAt.canLay_of_shaped h.2), h.1, h.2, k _ H (Same.refl H) (.bl _)⟩
  · cases hz
def isNone : D → Bool
  | .none => true
  | _ => false
theorem rt_isNone {B : Bs} {A : Addr → Prop} {N : Addr → Prop} {H : Hp} {x : V} {d : D} (h : RtV B A N H x (.d d)) : decide (x = .non) = isNone d := by
  cases h with
  | of h => cases h <;> simp [isNone]
  | lst _ _ _ => simp [isNone]
  | dic _ _ _ => simp [isNone]
  | dct _ _ _ _ => simp [isNone]
def opIs : D → D → Option D
  | d, .none => some (.bool (isNone d))
  | .bool a, .bool b => some (.bool (a == b))
  | _, _ => none
def opIsNot : D → D → Option D
  | d, .none => some (.bool (!isNone d))
  | .bool a, .bool b => some (.bool (!(a == b)))
  | _, _ => none
theorem bl_beq (a b : Bool) : (Value.bool a == Value.bool b) = (a == b) := by cases a <;> cases b <;> decide
abbrev rIsA : R2 := fun x y H Q => (y = .non ∧ Q (.bl (decide (x = .non))) H) ∨ ∃ a b, x = .bl a ∧ y = .bl b ∧ Q (.bl (a == b)) H
abbrev rIsNotA : R2 := fun x y H Q => (y = .non ∧ Q (.bl (!decide (x = .non))) H) ∨ ∃ a b, x = .bl a ∧ y = .bl b ∧ Q (.bl (!(a == b))) H
theorem op_isA {X : Cx} : OpR X (compareOp .Is) rIsA := by
  intro pins s σ H x y v u Q I rx ry h
  rcases h with h | h
  · exact op_isN pins s σ H x y v u Q I rx ry h
  · obtain ⟨a, b, rfl, rfl, q⟩ := h
    cases (show v = Value.bool a from rx)
    cases (show u = Value.bool b from ry)
    exact wpAny_is_plain rfl (fin_bl I q (bl_beq a b).symm)
theorem op_isnotA {X : Cx} : OpR X (compareOp .IsNot) rIsNotA := by
  intro pins s σ H x y v u Q I rx ry h
  rcases h with h | h
  · exact op_notN pins s σ H x y v u Q I rx ry h
  · obtain ⟨a, b, rfl, rfl, q⟩ := h
    cases (show v = Value.bool a from rx)
    cases (show u = Value.bool b from ry)
    exact wpAny_isNot_plain rfl (fin_bl I q (congrArg not (bl_beq a b).symm))
theorem od_is {B : Bs} : OpD B rIsA opIs := by
  intro A N H x y p q z Q fr hz hx hy k
  unfold opIs at hz
  split at hz
  · cases hz
    exact .inl ⟨rt_non hy, by rw [rt_isNone hx]; exact k _ H (Same.refl H) (.bl _)⟩
  · cases hz
    exact .inr ⟨_, _, rt_bl hx, rt_bl hy, k _ H (Same.refl H) (.bl _)⟩
  · cases hz
theorem od_isnot {B : Bs} : OpD B rIsNotA opIsNot := by
  intro A N H x y p q z Q fr hz hx hy k
  unfold opIsNot at hz
  split at hz
  · cases hz
    exact .inl ⟨rt_non hy, by rw [rt_isNone hx]; exact k _ H (Same.refl H) (.bl _)⟩
  · cases hz
    exact .inr ⟨_, _, rt_bl hx, rt_bl hy, k _ H (Same.refl H) (.bl _)⟩
  · cases hz
section
variable {X : Cx} {E : XK} {e a b c : Expr} {f fa fb fc : Ex S} {pos : Pos} {B : Bs}
theorem de_add (hB : B.K = X.K) (ha : DB X B E a fa) (hb : DB X B E b fb) : DE X B E (.BinOp a .Add b pos) (eBin opAdd fa fb) := de_bin od_add (by rw [hB]; exact pe_op op_addA ha hb)
theorem de_sub (ha : DB X B E a fa) (hb : DB X B E b fb) : DE X B E (.BinOp a .Sub b pos) (eBin opSub fa fb) := de_bin od_sub (pe_op op_sub ha hb)
theorem de_mul (hB : B.K = X.K) (ha : DB X B E a fa) (hb : DB X B E b fb) : DE X B E (.BinOp a .Mult b pos) (eBin opMul fa fb) := de_bin od_mul (by rw [hB]; exact pe_op op_mulA ha hb)
theorem de_div (ha : DB X B E a fa) (hb : DB X B E b fb) : DE X B E (.BinOp a .FloorDiv b pos) (eBin opDiv fa fb) := de_bin od_div (pe_op op_fdiv ha hb)
theorem de_mod (ha : DB X B E a fa) (hb : DB X B E b fb) : DE X B E (.BinOp a .Mod b pos) (eBin opMod fa fb) := de_bin od_mod (pe_op op_mod ha hb)
theorem de_pow (ha : DB X B E a fa) (hb : DB X B E b fb) : DE X B E (.BinOp a .Pow b pos) (eBin opPow fa fb) := de_bin od_pow (pe_op op_pow ha hb)
theorem de_neg (ha : DB X B E a fa) : DE X B E (.UnaryOp .USub a pos) (eUn opNeg fa) := de_un ud_neg (pe_un un_neg ha)
structure CmpD (X : Cx) (B : Bs) (op : CmpOp) (f : D → D → Option D) : Prop where
  ex : ∃ r : R2, OpR X (compareOp op) r ∧ OpD B r f
theorem cd_lt : CmpD X B .Lt (opRel fun i j => decide (i < j)) := ⟨_, op_lt, od_rel⟩
theorem cd_le : CmpD X B .LtE (opRel fun i j => decide (i ≤ j)) := ⟨_, op_le, od_rel⟩
theorem cd_gt : CmpD X B .Gt (opRel fun i j => decide (j < i)) := ⟨_, op_gt, od_rel⟩
theorem cd_ge : CmpD X B .GtE (opRel fun i j => decide (j ≤ i)) := ⟨_, op_ge, od_rel⟩
theorem cd_eq (hB : B.K = X.K) (hu : X.A.units + 64 < cLine) : CmpD X B .Eq opEq := ⟨_, op_eqD hu, by rw [← hB]; exact od_eq⟩
theorem cd_ne (hB : B.K = X.K) (hu : X.A.units + 64 < cLine) : CmpD X B .NotEq opNe := ⟨_, op_neD hu, by rw [← hB]; exact od_ne⟩
theorem cd_is : CmpD X B .Is opIs := ⟨_, op_isA, od_is⟩
theorem cd_isnot : CmpD X B .IsNot opIsNot := ⟨_, op_isnotA, od_isnot⟩
theorem de_cmp {op : CmpOp} {g : D → D → Option D} (hc : CmpD X B op g) (ha : DB X B E a fa) (hb : DB X B E b fb) (hm : behindInMarks op b = false := by first | exact nomark _ | rfl) : DE X B E (.Compare a [op] [b] pos) (eBin g fa fb) := by
  obtain ⟨r, h1, h2⟩ := hc
  exact de_bin h2 (pe_cmpR h1 ha hb hm)
/-- an expression whose value is a truth -/
def tOf (f : Ex S) : Tx S := fun ρ s => (f ρ s).bind fun y s1 => match y with
  | .d (.bool b) => .ok b s1
  | _ => .bad
/-- from a value's reading to a test's -/
theorem tT_of (f : Ex S) {σ : Sg} {H : Hp} {Q : Bool → Hp → Prop} (h : tT B E (tOf f) σ H Q) : tB B E f σ H fun x H' => ∃ k, x = .bl k ∧ Q k H' := by
  obtain ⟨G, own, ρ, s, R, q⟩ := h
  refine tB.run R _ q.bnd fun y s1 v H1 q1 k1 r1 R1 => ?_
  cases y with
  | r _ => exact q1.elim
  | o _ _ => exact q1.elim
  | p _ => exact q1.elim
  | f _ => exact q1.elim
  | d p =>
    cases p with
    | bool b => exact ⟨b, rt_bl r1, q1 H1 k1⟩
    | _ => exact q1.elim
theorem dt_cmp {op : CmpOp} {g : D → D → Option D} (hc : CmpD X B op g) (ha : DB X B E a fa) (hb : DB X B E b fb) (hm : behindInMarks op b = false := by first | exact nomark _ | rfl) : DT X B E (.Compare a [op] [b] pos) (tOf (eBin g fa fb)) := by
  obtain ⟨r, h1, h2⟩ := hc
  refine pt_imp (pt_cmpR h1 ha hb hm) fun σ H Q h => ?_
  obtain ⟨G, own, ρ, s, R, q⟩ := h
  refine tB.run R _ q.bnd.bnd fun y s1 v H1 q1 k1 r1 R1 => ?_
  refine tB.run R1 _ q1.bnd fun z s2 w H2 q2 k2 r2 R2 => ?_
  cases y with
  | r _ => exact q2.elim
  | o _ _ => exact q2.elim
  | p _ => exact q2.elim
  | f _ => exact q2.elim
  | d p =>
    cases z with
    | r _ => exact q2.elim
    | o _ _ => exact q2.elim
    | p _ => exact q2.elim
    | f _ => exact q2.elim
    | d q =>
      cases hz : g p q with
      | none => simp only [hz] at q2; exact q2.elim
      | some d =>
        simp only [hz] at q2
        refine h2 _ G.A0 H2 v w p q d _ (fun _ hp => R2.fresh hp) hz (r1.kp R1 k2) r2 fun u H3 sm rp => ?_
        cases d with
        | bool b =>
          cases rp
          exact ⟨b, rfl, q2 H3 ((k1.trans k2).trans (R2.same sm))⟩
        | _ => exact q2.elim
theorem dt_val (h : DB X B E e f) (he : ∀ whole, isTrue e X.env whole = (do let v ← whole; standAt e.pos; holding [v] (truthy v)) := by intro _; rfl) : DT X B E e (tOf f) :=
  pt_imp (pt_val h he) fun σ H Q q => tT_of f q
def xNot (f : Tx S) : Tx S := fun ρ s => (f ρ s).bind fun b s1 => .ok (!b) s1
def xAnd (f g : Tx S) : Tx S := fun ρ s => (f ρ s).bind fun b s1 => if b then g ρ s1 else .ok false s1
def xOr (f g : Tx S) : Tx S := fun ρ s => (f ρ s).bind fun b s1 => if b then .ok true s1 else g ρ s1
theorem dt_not {f : Tx S} (h : DT X B E a f) : DT X B E (.UnaryOp .Not a pos) (xNot f) := by
  refine pt_imp (pt_not h) fun σ H Q ⟨G, own, ρ, s, R, q⟩ => ?_
  refine tT.run R _ q.bnd fun y s1 H1 q1 k1 R1 => ?_
  exact q1 H1 k1
abbrev DW (X : Cx) (B : Bs) (E : XK) (e : Expr) (f : Tx S) : Prop := PW X e (tT B E f)
theorem dw_and1 {f : Tx S} (h : DT X B E a f) : DW X B E (.BoolOp .And [a] pos) f := pw_and1 h
theorem dw_or1 {f : Tx S} (h : DT X B E a f) : DW X B E (.BoolOp .Or [a] pos) f := pw_or1 h
theorem dw_and {f g : Tx S} {rest : List Expr} (h : DT X B E a f) (hb : DW X B E (.BoolOp .And (b :: rest) pos) g) : DW X B E (.BoolOp .And (a :: b :: rest) pos) (xAnd f g) := by
  refine pw_imp (pw_and h hb) fun σ H Q ⟨G, own, ρ, s, R, q⟩ => ?_
  refine tT.run R _ q.bnd fun y s1 H1 q1 k1 R1 => ?_
  cases y with
  | true =>
    rw [if_pos rfl] at q1 ⊢
    exact tT.run R1 _ q1 fun z s2 H2 q2 k2 R2 => q2 H2 (k1.trans k2)
  | false => exact q1 H1 k1
theorem dw_or {f g : Tx S} {rest : List Expr} (h : DT X B E a f) (hb : DW X B E (.BoolOp .Or (b :: rest) pos) g) : DW X B E (.BoolOp .Or (a :: b :: rest) pos) (xOr f g) := by
  refine pw_imp (pw_or h hb) fun σ H Q ⟨G, own, ρ, s, R, q⟩ => ?_
  refine tT.run R _ q.bnd fun y s1 H1 q1 k1 R1 => ?_
  cases y with
  | false =>
    rw [if_neg Bool.false_ne_true] at q1 ⊢
    exact tT.run R1 _ q1 fun z s2 H2 q2 k2 R2 => q2 H2 (k1.trans k2)
  | true => exact q1 H1 k1
theorem dt_bool {op : BoolOp} {es : List Expr} {f : Tx S} (h : DW X B E (.BoolOp op es pos) f) : DT X B E (.BoolOp op es pos) f := h.pt
def eNot (f : Ex S) : Ex S := fun ρ s => (f ρ s).bind fun y s1 => match y with
  | .d (.bool b) => .ok (.d (.bool (!b))) s1
  | _ => .bad
def eAnd (f g : Ex S) : Ex S := fun ρ s => (f ρ s).bind fun y s1 => match y with
  | .d (.bool b) => if b then g ρ s1 else .ok (.d (.bool false)) s1
  | _ => .bad
def eOr (f g : Ex S) : Ex S := fun ρ s => (f ρ s).bind fun y s1 => match y with
  | .d (.bool b) => if b then .ok (.d (.bool true)) s1 else g ρ s1
  | _ => .bad
theorem de_one {op : BoolOp} (h : DE X B E a fa) : DE X B E (.BoolOp op [a] pos) fa := pe_one h
theorem de_and {rest : List Expr} (h : DB X B E a fa) (hb : DE X B E (.BoolOp .And (b :: rest) pos) fb) : DE X B E (.BoolOp .And (a :: b :: rest) pos) (eAnd fa fb) := by
  refine pe_imp (pe_and h hb) fun σ H Q ⟨G, own, ρ, s, R, q⟩ => ?_
  refine tB.run R _ q.bnd fun y s1 v H1 q1 k1 r1 R1 => ?_
  cases y with
  | r _ => exact q1.elim
  | o _ _ => exact q1.elim
  | p _ => exact q1.elim
  | f _ => exact q1.elim
  | d p =>
    cases p with
    | bool b =>
      refine ⟨b, rt_bl r1, ?_⟩
      cases b with
      | true =>
        simp only [if_true] at q1 ⊢
        exact tD.run R1 _ q1 fun z s2 w H2 q2 k2 r2 R2 => q2 w H2 (k1.trans k2) r2
      | false => exact q1 _ H1 k1 (.bl _)
    | _ => exact q1.elim
/-- a if c else b -/
def eIf (c : Tx S) (fa fb : Ex S) : Ex S := fun ρ s => (c ρ s).bind fun k s1 => if k then fa ρ s1 else fb ρ s1
theorem de_if {fc : Tx S} (hc : DT X B E c fc) (ha : DE X B E a fa) (hb : DE X B E b fb) : DE X B E (.IfExp c a b pos) (eIf fc fa fb) := by
  refine pe_imp (pe_ifExp hc ha hb) fun σ H Q ⟨G, own, ρ, s, R, q⟩ => ?_
  refine tT.run R _ q.bnd fun y s1 H1 q1 k1 R1 => ?_
  cases y with
  | true => exact tD.run R1 _ q1 fun z s2 w H2 q2 k2 r2 R2 => q2 w H2 (k1.trans k2) r2
  | false => exact tD.run R1 _ q1 fun z s2 w H2 q2 k2 r2 R2 => q2 w H2 (k1.trans k2) r2
/-- a <= b <= c -/
def eChain (g g' : D → D → Option D) (fa fb fc : Ex S) : Ex S := fun ρ s => (fa ρ s).bind fun x s1 => (fb ρ s1).bind fun y s2 => match x, y with
  | .d p, .d q => (match g p q with
    | some (.bool true) => (fc ρ s2).bind fun z s3 => (match z with
      | .d r => (match g' q r with
        | some d => .ok (.d d) s3
        | none => .bad)
      | _ => .bad)
    | some (.bool false) => .ok (.d (.bool false)) s2
    | _ => .bad)
  | _, _ => .bad
theorem chain_of {r r' : R2} {g g' : D → D → Option D} (h2 : OpD B r g) (h2' : OpD B r' g') {σ : Sg} {H : Hp} {Q : VK} (h : tD B E (eChain g g' fa fb fc) σ H Q) : tChain r r' (tB B E fa) (tB B E fb) (tB B E fc) σ H Q := by
  obtain ⟨G, own, ρ, s, R, q⟩ := h
  refine tB.run R _ q.bnd fun y s1 v H1 q1 k1 r1 R1 => ?_
  refine tB.run R1 _ q1.bnd fun z s2 w H2 q2 k2 r2 R2 => ?_
  cases y with
  | r _ => exact q2.elim
  | o _ _ => exact q2.elim
  | p _ => exact q2.elim
  | f _ => exact q2.elim
  | d p =>
    cases z with
    | r _ => exact q2.elim
    | o _ _ => exact q2.elim
    | p _ => exact q2.elim
    | f _ => exact q2.elim
    | d q =>
      cases hz : g p q with
      | none => simp only [hz] at q2; exact q2.elim
      | some d =>
        simp only [hz] at q2
        refine h2 _ G.A0 H2 v w p q d _ (fun _ hp => R2.fresh hp) hz (r1.kp R1 k2) r2 fun u H3 sm rp => ?_
        have st3 := R2.same sm
        cases d with
        | bool b =>
          cases rp
          refine ⟨b, rfl, ?_⟩
          cases b with
          | false => exact q2 _ H3 ((k1.trans k2).trans st3) (.bl _)
          | true =>
            rw [if_pos rfl]
            refine tB.run (R2.stp st3) _ q2.bnd fun z s4 w4 H4 q4 k4 r4 R4 => ?_
            cases z with
            | r _ => exact q4.elim
            | o _ _ => exact q4.elim
            | p _ => exact q4.elim
            | f _ => exact q4.elim
            | d t =>
              cases hz' : g' q t with
              | none => simp only [hz'] at q4; exact q4.elim
              | some d =>
                simp only [hz'] at q4
                exact h2' _ G.A0 H4 w w4 q t d _ (fun _ hp => R4.fresh hp) hz' ((r2.kp R2 st3).kp (R2.stp st3) k4) r4 fun u H5 sm rp => q4 u H5 ((((k1.trans k2).trans st3).trans k4).trans (R4.same sm)) rp
        | _ => exact q2.elim
theorem de_chain {op op' : CmpOp} {g g' : D → D → Option D} (hc : CmpD X B op g) (hc' : CmpD X B op' g') (ha : DB X B E a fa) (hb : DB X B E b fb) (hcc : DB X B E c fc) (hm : lastMarks [op, op'] [b, c] = false := by with_unfolding_all rfl) : DE X B E (.Compare a [op, op'] [b, c] pos) (eChain g g' fa fb fc) := by
  obtain ⟨r, h1, h2⟩ := hc
  obtain ⟨r', h1', h2'⟩ := hc'
  exact pe_imp (pe_chain h1 h1' ha hb hcc (hm := hm)) fun σ H Q h => chain_of h2 h2' h
theorem dt_chain {op op' : CmpOp} {g g' : D → D → Option D} (hc : CmpD X B op g) (hc' : CmpD X B op' g') (ha : DB X B E a fa) (hb : DB X B E b fb) (hcc : DB X B E c fc) (hm : lastMarks [op, op'] [b, c] = false := by with_unfolding_all rfl) : DT X B E (.Compare a [op, op'] [b, c] pos) (tOf (eChain g g' fa fb fc)) := by
  obtain ⟨r, h1, h2⟩ := hc
  obtain ⟨r', h1', h2'⟩ := hc'
  refine pt_imp (pt_chain h1 h1' ha hb hcc (hm := hm)) fun σ H Q h => ?_
  obtain ⟨G, own, ρ, s, R, q⟩ := h
  refine chain_of h2 h2' ⟨G, own, ρ, s, R, q.bnd.mono fun y s' q v H' k r => ?_⟩
  cases y with
  | r _ => exact q.elim
  | o _ _ => exact q.elim
  | p _ => exact q.elim
  | f _ => exact q.elim
  | d p =>
    cases p with
    | bool b => cases r; exact ⟨b, rfl, q H' k⟩
    | _ => exact q.elim
/-- data of values -/
def datas : List Val → Option (List D)
  | [] => some []
  | .d x :: r => (datas r).map (x :: ·)
  | _ :: _ => none
inductive RvL (B : Bs) (A : Addr → Prop) (H : Hp) : List V → List Val → Prop
  | nil : RvL B A H [] []
  | cons {v : V} {y : Val} {vs : List V} {ys : List Val} (h : RvV B A H v y) (t : RvL B A H vs ys) : RvL B A H (v :: vs) (y :: ys)
theorem RvL.datas {A : Addr → Prop} {H : Hp} : ∀ {vs : List V} {ys : List Val} {ds : List D}, RvL B A H vs ys → datas ys = some ds → RpL B A H vs ds
  | _, _, _, .nil, e => by cases e; exact .nil
  | _, _, _, .cons (y := y) h t, e => by
    cases y with
    | r _ => cases e
    | o _ _ => cases e
    | p _ => cases e
    | f _ => cases e
    | d x =>
      simp only [DL.datas, Option.map_eq_some_iff] at e
      obtain ⟨r, e1, rfl⟩ := e
      exact .cons h (RvL.datas t e1)
theorem RtL.datas {A : Addr → Prop} {N : Addr → Prop} {H : Hp} : ∀ {vs : List V} {ys : List Val} {ds : List D}, RtL B A N H vs ys → datas ys = some ds → RtL B A N H vs (ds.map .d)
  | _, _, _, .nil, e => by cases e; exact .nil
  | _, _, _, .cons (y := y) h t, e => by
    cases y with
    | r _ => cases e
    | o _ _ => cases e
    | p _ => cases e
    | f _ => cases e
    | d x =>
      simp only [DL.datas, Option.map_eq_some_iff] at e
      obtain ⟨r, e1, rfl⟩ := e
      exact .cons h (RtL.datas t e1)
def tVs (B : Bs) (E : XK) (f : Exs S) : TA := fun σ H Q => ∃ G own ρ s, Rel B G own ρ s σ H ∧ (f ρ s).sat (fun y s' => ∀ v H', Stp G s' H H' → RvL B (Av G own) H' v y → Q v H') fun e s' => ExW B G E e s'
abbrev DV (X : Cx) (B : Bs) (E : XK) (es : List Expr) (f : Exs S) : Prop := PA X es (tVs B E f)
theorem dv_nil : DV X B E [] (aNil : Exs S) := by
  refine pa_imp pa_nil fun σ H Q ⟨G, own, ρ, s, R, q⟩ => ?_
  exact q [] H R.refl .nil
theorem dv_cons {es : List Expr} {g : Exs S} (h : DE X B E e f) (hs : DV X B E es g) (hst : starEach (e :: es) X.env = (false, eval e X.env) :: starEach es X.env := by rfl) : DV X B E (e :: es) (aCons f g) := by
  refine pa_imp (pa_cons h hs hst) fun σ H Q ⟨G, own, ρ, s, R, q⟩ => ?_
  refine tD.run R _ q.bnd fun y s1 v H1 q1 k1 r1 R1 => ?_
  refine ⟨G, own, ρ, s1, R1, q1.bnd.mono fun z s2 q2 w H2 k2 r2 => ?_⟩
  exact q2 _ _ (k1.trans k2) (.cons (r1.kp (R1.kp k2)) r2)
def eSeq (mk : List D → D) (g : Exs S) : Ex S := fun ρ s => (g ρ s).bind fun ys s1 => match datas ys with
  | some ds => if ds.length ≤ sizeLine then .ok (.d (mk ds)) s1 else .bad
  | none => .bad
theorem de_tup {es : List Expr} {g : Exs S} {k : Nat} (h : DV X B E es g) : DE X B E (.Tuple es k pos) (eSeq .tuple g) := by
  refine pe_imp (pe_tup h) fun σ H Q ⟨G, own, ρ, s, R, q⟩ => ?_
  refine ⟨G, own, ρ, s, R, q.bnd.mono fun z s2 q2 w H2 k2 r2 => ?_⟩
  cases e : datas z with
  | none => simp only [e] at q2; exact q2.elim
  | some ds =>
    have rl := r2.datas e
    simp only [e] at q2
    split at q2
    · rename_i hl
      exact ⟨by rw [rl.len]; exact hl, fun p hp => q2 _ _ (k2.trans ((R.stp k2).put hp)) (new_tup hp rl)⟩
    · exact q2.elim
def opIx : D → D → Option D
  | .list ds, .int i => atI ds i
  | .tuple ds, .int i => atI ds i
  | .str z, .int i => if z.length ≤ sizeLine then (atI z.cps.toList i).map fun c => .str ⟨#[c]⟩ else none
  | _, _ => none
theorem RpL.atI {A : Addr → Prop} {H : Hp} {xs : List V} {ds : List D} (r : RpL B A H xs ds) {i : Int} {d : D} (h : atI ds i = some d) : ∃ x, L2.atI xs i = some x ∧ Rp B A H x d := by
  unfold L2.atI at h ⊢
  rw [r.len]
  cases e : ixN ds.length i with
  | none => rw [e] at h; cases h
  | some j =>
    rw [e] at h
    exact r.get' (show ds[j]? = some d from h)
theorem od_ix : OpD B (rIx B.K) opIx := by
  intro A N H x y p q z Q fr hz hx hy k
  unfold opIx at hz
  split at hz
  · obtain ⟨u, xs, rfl, tx, rx⟩ := rt_lst hx
    obtain ⟨v, e, r⟩ := rx.atI hz
    exact .inl ⟨u, xs, _, v, rfl, rt_int hy, SqL.of tx, e, k _ H (Same.refl H) r⟩
  · obtain ⟨u, xs, rfl, tx, rx⟩ := rt_tup hx
    obtain ⟨v, e, r⟩ := rx.atI hz
    exact .inr (.inl ⟨u, xs, _, v, rfl, rt_int hy, tx.sq, e, k _ H (Same.refl H) r⟩)
  · split at hz
    · rename_i hl
      obtain ⟨c, e, rfl⟩ := Option.map_eq_some_iff.mp hz
      exact .inr (.inr ⟨_, _, c, rt_str hx, rt_int hy, hl, e, k _ H (Same.refl H) (.str _)⟩)
    · cases hz
  · cases hz
theorem de_ix (hB : B.K = X.K) (ha : DB X B E a fa) (hb : DB X B E b fb) (hs : PlainIx b := by first | exact fun _ _ => rfl) : DE X B E (.Subscript a b pos) (eBin opIx fa fb) := de_bin od_ix (by rw [hB]; exact pe_ix ix_seq ha hb hs)
def cutL {α : Type} (xs : List α) (lo hi : Option Int) : List α := (xs.drop (HT.sIx xs.length 0 lo)).take (HT.sIx xs.length xs.length hi - HT.sIx xs.length 0 lo)
theorem RpL.cut {A : Addr → Prop} {H : Hp} {xs : List V} {ds : List D} (r : RpL B A H xs ds) (lo hi : Option Int) : RpL B A H (cutV xs lo hi) (cutL ds lo hi) := by
  unfold cutV cutL
  rw [r.len]
  exact (r.drop _).take _
/-- a part of a slice -/
abbrev Ox (S : Type) := Env → S → Out S (Option Int)
def oNone : Ox S := fun _ s => .ok none s
def oSome (f : Ex S) : Ox S := fun ρ s => (f ρ s).bind fun y s1 => match y with
  | .d (.int i) => .ok (some i) s1
  | _ => .bad
def tO (B : Bs) (E : XK) (f : Ox S) : TO := fun σ H Q => ∃ G own ρ s, Rel B G own ρ s σ H ∧ (f ρ s).sat (fun y s' => ∀ H', Stp G s' H H' → Q y H') fun e s' => ExW B G E e s'
abbrev DO (X : Cx) (B : Bs) (E : XK) (e : Option Expr) (f : Ox S) : Prop := PO X e (tO B E f)
theorem po_imp {e : Option Expr} {t t' : TO} (h : PO X e t) (i : ∀ σ H Q, t' σ H Q → t σ H Q) : PO X e t' := ⟨fun pins s σ H Q I q => h.run pins s σ H Q I (i σ H Q q)⟩
theorem do_none : DO X B E none (oNone : Ox S) := po_imp po_none fun σ H Q ⟨G, own, ρ, s, R, q⟩ => q H R.refl
theorem do_some (h : DB X B E e f) : DO X B E (some e) (oSome f) := by
  refine po_imp (po_some h) fun σ H Q ⟨G, own, ρ, s, R, q⟩ => ?_
  refine tB.run R _ q.bnd fun y s1 v H1 q1 k1 r1 R1 => ?_
  cases y with
  | r _ => exact q1.elim
  | o _ _ => exact q1.elim
  | p _ => exact q1.elim
  | f _ => exact q1.elim
  | d p =>
    cases p with
    | int i => exact ⟨i, rt_int r1, q1 H1 k1⟩
    | _ => exact q1.elim
def opSl : D → Option Int → Option Int → Option D
  | .list ds, lo, hi => some (.list (cutL ds lo hi))
  | .tuple ds, lo, hi => some (.tuple (cutL ds lo hi))
  | _, _, _ => none
def eSl (fa : Ex S) (fl fh : Ox S) : Ex S := fun ρ s => (fa ρ s).bind fun x s1 => (fl ρ s1).bind fun l s2 => (fh ρ s2).bind fun h s3 => match x with
  | .d p => (match opSl p l h with
    | some d => .ok (.d d) s3
    | none => .bad)
  | _ => .bad
theorem de_sl {lo hi : Option Expr} {p2 : Pos} {fl fh : Ox S} (hB : B.K = X.K) (ha : DB X B E a fa) (hl : DO X B E lo fl) (hh : DO X B E hi fh) : DE X B E (.Subscript a (.Slice lo hi none p2) pos) (eSl fa fl fh) := by
  refine pe_imp (pe_slice (sl_tupA.or sl_list) ha hl hh) fun σ H Q ⟨G, own, ρ, s, R, q⟩ => ?_
  refine tB.run R _ q.bnd fun y s1 v H1 q1 k1 r1 R1 => ?_
  refine ⟨G, own, ρ, s1, R1, q1.bnd.mono fun l s2 q2 H2 k2 => ?_⟩
  have R2 := R1.stp k2
  refine ⟨G, own, ρ, s2, R2, q2.bnd.mono fun h s3 q3 H3 k3 => ?_⟩
  have R3 := R2.stp k3
  have r3 := (r1.kp R1 k2).kp R2 k3
  have k13 := (k1.trans k2).trans k3
  cases y with
  | r _ => exact q3.elim
  | o _ _ => exact q3.elim
  | p _ => exact q3.elim
  | f _ => exact q3.elim
  | d p =>
    cases p with
    | tuple ds =>
      obtain ⟨u, xs, rfl, tx, rx⟩ := rt_tup r3
      refine .inl ⟨u, xs, rfl, by rw [← hB]; exact tx.sq, fun hw => ?_, fun _ p hp => ?_⟩
      · refine q3 _ H3 k13 (.tup tx ?_)
        have e : cutV xs l h = xs := by
          unfold cutV
          rw [hw.1, hw.2]
          simp
        have := rx.cut l h
        rw [e] at this
        exact this
      · exact q3 _ _ (k13.trans (R3.put hp)) (new_tup hp (rx.cut l h))
    | list ds =>
      obtain ⟨u, xs, rfl, tx, rx⟩ := rt_lst r3
      exact .inr ⟨u, xs, rfl, SqL.of tx, fun p hp => q3 _ _ (k13.trans (R3.put hp)) (new_lst hp (R3.fresh hp) (rx.cut l h))⟩
    | _ => exact q3.elim
def eCall (op : List D → Option D) (g : Exs S) : Ex S := fun ρ s => (g ρ s).bind fun ys s1 => match datas ys with
  | some ds => (match op ds with
    | some z => .ok (.d z) s1
    | none => .bad)
  | none => .bad
def CallD (B : Bs) (r : List V → Hp → VK → Prop) (op : List D → Option D) : Prop := ∀ (A : Addr → Prop) (N : Addr → Prop) (H : Hp) (vs : List V) (ds : List D) (z : D) (Q : VK),
  (∀ p, H p = none → ¬ A p) → op ds = some z → RtL B A N H vs (ds.map .d) → (∀ v H', Same H H' → Rp B A H' v z → Q v H') → r vs H Q
theorem de_of_tCB {g : Exs S} {r : List V → Hp → VK → Prop} {op : List D → Option D} (hr : CallD B r op) {es : List Expr} (h : PE X e (tCB r (tAs B E g))) : DE X B E e (eCall op g) := by
  refine pe_imp h fun σ H Q ⟨G, own, ρ, s, R, q⟩ => ?_
  refine tAs.run R _ q.bnd fun z s2 w H2 q2 k2 r2 R2 => ?_
  cases e : datas z with
  | none => simp only [e] at q2; exact q2.elim
  | some ds =>
    simp only [e] at q2
    cases e2 : op ds with
    | none => simp only [e2] at q2; exact q2.elim
    | some d =>
      simp only [e2] at q2
      exact hr _ G.A0 H2 w ds d Q (fun _ hp => R2.fresh hp) e2 (r2.datas e) fun v H' sm rp => q2 v H' (k2.trans (R2.same sm)) rp
/-- f(e, ..), f a built-in function; T(e, ..), T a built-in type: hc the rule, hr what it is on data -/
theorem de_fun {id : String} {x : Str} {p : Pos} {es : List Expr} {g : Exs S} {r : List V → Hp → VK → Prop} {op : List D → Option D} (hc : CallR X (.builtin id) r) (hr : CallD B r op) (hg : Gl X x) (hm : X.mg x = none) (hv : bootBuiltins x = some (.builtin id))
    (ha : DA X B E (e :: es) g) (hn : x ≠ "__name__" := by decide) (hdb : (x == ("__debug__" : Str)) = false := by decide)
    (he : starEach (e :: es) X.env = (false, eval e X.env) :: starEach es X.env := by rfl) (hpl : (backTo pos (starEach es X.env)).any (·.1) = false := by rfl) : DE X B E (.Call (.Name x p) (e :: es) [] pos) (eCall op g) :=
  de_of_tCB (es := es) hr (pe_callB hc hg hm hv ha hn hdb he hpl)
theorem de_typ {T : String} {x : Str} {p : Pos} {es : List Expr} {g : Exs S} {r : List V → Hp → VK → Prop} {op : List D → Option D} (hc : CallR X (.type T) r) (hr : CallD B r op) (hg : Gl X x) (hm : X.mg x = none) (hv : bootBuiltins x = some (.type T))
    (ha : DA X B E (e :: es) g) (hn : x ≠ "__name__" := by decide) (hdb : (x == ("__debug__" : Str)) = false := by decide)
    (he : starEach (e :: es) X.env = (false, eval e X.env) :: starEach es X.env := by rfl) (hpl : (backTo pos (starEach es X.env)).any (·.1) = false := by rfl) : DE X B E (.Call (.Name x p) (e :: es) [] pos) (eCall op g) :=
  de_of_tCB (es := es) hr (pe_callTy hc hg hm hv ha hn hdb he hpl)
end
end DL
namespace DL
open PySem PySem.Spec PyProof.Rows L2
variable {S : Type} [SI S]
/-- what the context must be -/
structure Ctx (X : Cx) (B : Bs) : Prop where
  hP : B.P = X.prog
  hK : B.K = X.K
  hw : B.w = X.w
  calm : X.calm = true
  nd : X.N.Nodup
  un : X.A.units + 100 < cLine
  gd : X.A.guards = some []
theorem Ctx.blk {X : Cx} {B : Bs} (c : Ctx X B) (s : Shared) (H : Hp) (sc : Scope) (en : PySem.Env) (fp : List Addr) : Ctx (X.blk s H sc en fp) B := ⟨c.hP, c.hK, c.hw, c.calm, c.nd, c.un, c.gd⟩
theorem Ctx.u64 {X : Cx} {B : Bs} (c : Ctx X B) : X.A.units + 64 < cLine := by have := c.un; omega
inductive Fl where
  | nx (ρ : Env)
  | rt (y : Val)
  | rg (y : Val) (ρ : Env)
  | bk (ρ : Env)
  | ct (ρ : Env)
abbrev Sx (S : Type) := Env → S → Out S Fl
/-- from H to H' a statement has changed nothing but the state and what was its own -/
structure Gone (G : Gh) (own own' : Own) (H H' : Hp) : Prop where
  keep : ∀ a o, H a = some o → a ∉ G.dks → (∀ i, own i ≠ some a) → H' a = some o
  news : ∀ i a, own' i = some a → (∃ j, own j = some a) ∨ H a = none
structure FrG (G : Gh) (s' : S) (H' : Hp) : Prop where
  fr : ∀ a o, G.H0 a = some o → a ∉ G.dks → H' a = some o
  dk : SI.dks s' = G.dks
  rs : SI.rep s' H'
def Post (B : Bs) (G : Gh) (own : Own) (H : Hp) (Dd : Ends) (fl : Fl) (s' : S) : Prop := match fl with
  | .nx ρ' => ∀ own' σ' H', Rel B G own' ρ' s' σ' H' → Gone G own own' H H' → Dd.nx σ' H'
  | .bk ρ' => ∀ own' σ' H', Rel B G own' ρ' s' σ' H' → Gone G own own' H H' → Dd.bk σ' H'
  | .ct ρ' => ∀ own' σ' H', Rel B G own' ρ' s' σ' H' → Gone G own own' H H' → Dd.ct σ' H'
  | .rt y => ∀ v H', FrG G s' H' → RvV B G.A0 H' v y → Dd.rt v H'
  | .rg y ρ' => ∀ v own' σ' H', Rel B G own' ρ' s' σ' H' → Gone G own own' H H' → RvV B (Av G own') H' v y → Dd.rt v H'
def tS (B : Bs) (E : XK) (g : Sx S) : TS := fun Dd σ H => ∃ G own ρ s, Rel B G own ρ s σ H ∧ (g ρ s).sat (Post B G own H Dd) fun e s' => ExW B G E e s'
abbrev DS (X : Cx) (B : Bs) (E : XK) (st : Stmt) (g : Sx S) : Prop := PS X st (tS B E g)
abbrev DSs (X : Cx) (B : Bs) (E : XK) (st : List Stmt) (g : Sx S) : Prop := PSs X st (tS B E g)
section
variable {B : Bs} {G : Gh} {own own' own'' : Own} {ρ ρ' : Env} {s s' s'' : S} {σ σ' : Sg} {H H' H'' : Hp}
theorem Gone.refl : Gone G own own H H := ⟨fun _ _ h _ _ => h, fun i a h => .inl ⟨i, h⟩⟩
theorem Gone.of_stp (k : Stp G s' H H') : Gone G own own H H' := ⟨fun a o h n _ => k.fr a o h n, fun i a h => .inl ⟨i, h⟩⟩
theorem Gone.trans (R : Rel B G own' ρ s σ H') (x : Gone G own own' H H') (y : Gone G own' own'' H' H'') : Gone G own own'' H H'' := by
  refine ⟨fun a o h n m => y.keep a o (x.keep a o h n m) n fun i z => ?_, fun i a h => ?_⟩
  · rcases x.news i a z with ⟨j, q⟩ | q
    · exact m j q
    · rw [h] at q; cases q
  · rcases y.news i a h with ⟨j, q⟩ | q
    · exact x.news j a q
    · cases z : H a with
      | none => exact .inr rfl
      | some o =>
        by_cases hd : a ∈ G.dks
        · obtain ⟨o', e, _⟩ := R.dkT hd
          rw [q] at e; cases e
        · by_cases ho : ∃ j, own j = some a
          · exact .inl ho
          · rw [x.keep a o z hd fun i e => ho ⟨i, e⟩] at q; cases q
theorem Rel.frG (R : Rel B G own ρ s σ H) : FrG G s H := ⟨R.fr, R.dk, R.rs⟩
theorem FrG.stp (x : FrG G s H) (k : Stp G s' H H') : FrG G s' H' := ⟨fun a o h n => k.fr a o (x.fr a o h n) n, k.dk, k.rs⟩
/-- the ends of a statement, a step later -/
theorem Post.later {Dd : Ends} {fl : Fl} (R : Rel B G own' ρ s σ H') (x : Gone G own own' H H') (h : Post B G own H Dd fl s') : Post B G own' H' Dd fl s' := by
  cases fl with
  | nx ρ' => exact fun own2 σ2 H2 R2 y => h own2 σ2 H2 R2 (x.trans R y)
  | bk ρ' => exact fun own2 σ2 H2 R2 y => h own2 σ2 H2 R2 (x.trans R y)
  | ct ρ' => exact fun own2 σ2 H2 R2 y => h own2 σ2 H2 R2 (x.trans R y)
  | rt y => exact h
  | rg y ρ' => exact fun v own2 σ2 H2 R2 y => h v own2 σ2 H2 R2 (x.trans R y)
/-- all that stands for data stands where something is -/
theorem Tp.ne {K : PySem.W.Frag} {H : Hp} {a p : Addr} {xs : List V} : True := trivial
end
section
variable {B : Bs} {A : Addr → Prop} {H : Hp} {p : Addr}
mutual
theorem Rp.grow (hp : H p = none) : ∀ {v : V} {d : D}, Rp B A H v d → Rp B (fun a => A a ∨ a = p) H v d
  | _, _, .non => .non
  | _, _, .bl b => .bl b
  | _, _, .int i => .int i
  | _, _, .str x => .str x
  | _, _, .lst h n r => .lst h (fun z => Or.elim z n fun e => by rw [e, hp] at h; cases h) (RpL.grow hp r)
  | _, _, .tup h r => .tup h (RpL.grow hp r)
  | _, _, .dic h n r => .dic h (fun z => Or.elim z n fun e => by rw [e, hp] at h; cases h) (RpM.grow hp r)
  | _, _, .dct h n e r => .dct h (fun z => Or.elim z n fun e => by rw [e, hp] at h; cases h) e (RpM.grow hp r)
theorem RpL.grow (hp : H p = none) : ∀ {v : List V} {d : List D}, RpL B A H v d → RpL B (fun a => A a ∨ a = p) H v d
  | _, _, .nil => .nil
  | _, _, .cons h t => .cons (Rp.grow hp h) (RpL.grow hp t)
theorem RpM.grow (hp : H p = none) : ∀ {v : List (V × V)} {d : List (D × D)}, RpM B A H v d → RpM B (fun a => A a ∨ a = p) H v d
  | _, _, .nil => .nil
  | _, _, .cons h g t => .cons (Rp.grow hp h) (Rp.grow hp g) (RpM.grow hp t)
end
theorem PlR.grow {B : Bs} {A : Addr → Prop} {H : Hp} {p : Addr} (hp : H p = none) {v : V} {d : D} (h : PlR B A H v d) : PlR B (fun a => A a ∨ a = p) H v d := by
  cases d with
  | tuple ds => obtain ⟨a, xs, e, h, r⟩ := h; exact ⟨a, xs, e, h, RpL.grow hp r⟩
  | dict kvs => obtain ⟨a, ks, e, h, n, d, r⟩ := h; exact ⟨a, ks, e, h, (fun z => Or.elim z n fun e => by rw [e, hp] at h; cases h), d, RpM.grow hp r⟩
  | _ => exact h.elim
theorem RvV.grow (hp : H p = none) {v : V} : ∀ {y : Val}, RvV B A H v y → RvV B (fun a => A a ∨ a = p) H v y
  | .d _, h => Rp.grow hp h
  | .r _, h => h
  | .o _ _, ⟨a, C, dx, fs', e, c, h, n, l⟩ => ⟨a, C, dx, fs', e, c, h, (fun z => Or.elim z n fun e => by rw [e, hp] at h; cases h), fun q hq => let ⟨u, e, r⟩ := l q hq; ⟨u, e, r.grow hp⟩⟩
  | .p _, h => PlR.grow hp h
  | .f _, h => h
theorem OwnAt.grow (hp : H p = none) {a : Addr} : ∀ {x : Sl}, OwnAt B A H a x → OwnAt B (fun a => A a ∨ a = p) H a x
  | .l _, ⟨xs, h, r⟩ => ⟨xs, h, r.grow hp⟩
  | .m _, .inl ⟨ks, h, r⟩ => .inl ⟨ks, h, r.grow hp⟩
  | .m _, .inr ⟨ks, h, e, r⟩ => .inr ⟨ks, h, e, r.grow hp⟩
  | .no, h => h
  | .v _, h => h
  | .g _ _ _, h => h
  | .q _ _, ⟨C, dx, vs, hc, h, hn, r⟩ => ⟨C, dx, vs, hc, h, hn, r.grow hp⟩
theorem GmAt.grow (hp : H p = none) {a : Addr} {c : Str} {fs : List (Str × GF)} {gs : List Addr} (h : GmAt B A H a c fs gs) : GmAt B (fun a => A a ∨ a = p) H a c fs gs :=
  h.imp (fun r => Rp.grow hp r) (fun r => RpL.grow hp r) (fun _ r => OwnAt.grow hp r) fun _ _ _ z => z
end
section
variable {B : Bs} {G : Gh} {own : Own} {ρ : Env} {s s' : S} {σ : Sg} {H H' : Hp}
/-- a slot gets a value -/
theorem Rel.set (R : Rel B G own ρ s σ H) {i : Nat} {v : V} {y : Val} (h : RvV B (Av G own) H v y) : Rel B G own (ρ.set i (.v y)) s (σ.set i (some v)) H := by
  refine ⟨R.wf1, R.wf2, R.fr, R.dk, R.rs, R.inj, R.fre, R.ont, by simp [R.len], fun j x e => ?_⟩
  by_cases hj : j = i
  · subst hj
    obtain ⟨hl, e'⟩ := List.getElem?_eq_some_iff.mp e
    have hl' : j < ρ.length := by simpa using hl
    have : (ρ.set j (.v y))[j]? = some (.v y) := by simp [hl']
    rw [this] at e; cases e
    exact ⟨v, by simp [← R.len, hl'], h⟩
  · rw [List.getElem?_set_ne (Ne.symm hj)] at e
    have q := R.sl j x e
    have e2 : (σ.set i (some v))[j]? = σ[j]? := List.getElem?_set_ne (Ne.symm hj)
    cases x with
    | no => trivial
    | v z => obtain ⟨u, e1, r⟩ := q; exact ⟨u, by rw [e2]; exact e1, r⟩
    | l ds => obtain ⟨a, ho, hs, r⟩ := q; exact ⟨a, ho, by rw [e2]; exact hs, r⟩
    | m ds => obtain ⟨a, ho, hs, r⟩ := q; exact ⟨a, ho, by rw [e2]; exact hs, r⟩
    | g c a fs => obtain ⟨gs, ho, hs, hg, r⟩ := q; exact ⟨gs, ho, by rw [e2]; exact hs, by simpa using hg, r⟩
    | q _ _ => obtain ⟨a, ho, hs, r⟩ := q; exact ⟨a, ho, by rw [e2]; exact hs, r⟩
/-- a slot becomes one's own: a new object stands at p -/
theorem Rel.mine0 (R : Rel B G own ρ s σ H) {i : Nat} {p : Addr} {x : Sl} (hil : i < σ.length) (hp : H p = none) (k : Stp G s' H H') (hx : OwnAt B (fun a => Av G own a ∨ a = p) H' p x) :
    Rel B G (fun j => if j = i then some p else own j) (ρ.set i x) s' (σ.set i (some (.ref p))) H' ∧ Gone G own (fun j => if j = i then some p else own j) H H' := by
  have R' := R.stp k
  have kp := R.kp k
  have kp' : Kp (fun a => Av G own a ∨ a = p) H H' := ⟨kp.tup, fun a o h n => kp.all a o h fun z => n (.inl z)⟩
  have av : ∀ a, Av G (fun j => if j = i then some p else own j) a → Av G own a ∨ a = p := fun a h => by
    rcases h with h | ⟨j, h⟩
    · exact .inl (.inl h)
    · by_cases hj : j = i
      · simp only [hj, if_true] at h; cases h; exact .inr rfl
      · simp only [hj, if_false] at h; exact .inl (.inr ⟨j, h⟩)
  have hnot : H' p ≠ none ∧ ∃ o, H' p = some o ∧ isTu o = false := by
    cases x with
    | no => exact hx.elim
    | v _ => exact hx.elim
    | g _ _ _ => exact hx.elim
    | q _ _ => obtain ⟨_, _, _, _, e, _⟩ := hx; exact ⟨by rw [e]; simp, _, e, rfl⟩
    | l ds => obtain ⟨xs, e, _⟩ := hx; exact ⟨by rw [e]; simp, _, e, rfl⟩
    | m ds =>
      rcases hx with ⟨ks, e, _⟩ | ⟨ks, e, _⟩
      · exact ⟨by rw [e]; simp, _, e, rfl⟩
      · exact ⟨by rw [e]; simp, _, e, rfl⟩
  have hH0 : G.H0 p = none := by
    cases q : G.H0 p with
    | none => rfl
    | some o =>
      by_cases hd : p ∈ G.dks
      · obtain ⟨o', e, _⟩ := R.dkT hd
        rw [hp] at e; cases e
      · rw [R.fr p o q hd] at hp; cases hp
  have hA0 : ¬ G.A0 p := fun z => R.wf2 p z hp
  have hown : ∀ j, own j ≠ some p := fun j z => by
    obtain ⟨o, e, _⟩ := R.ont j p z
    rw [hp] at e; cases e
  refine ⟨⟨R.wf1, R'.wf2, R'.fr, R'.dk, R'.rs, fun a b c h1 h2 => ?_, fun j a h => ?_, fun j a h => ?_, by simp [R.len], fun j z e => ?_⟩, ⟨fun a o h n _ => k.fr a o h n, fun j a h => ?_⟩⟩
  · by_cases ha : a = i
    · by_cases hb : b = i
      · rw [ha, hb]
      · simp only [ha, if_true] at h1; simp only [hb, if_false] at h2; cases h1; exact absurd h2 (hown b)
    · by_cases hb : b = i
      · simp only [ha, if_false] at h1; simp only [hb, if_true] at h2; cases h2; exact absurd h1 (hown a)
      · simp only [ha, if_false] at h1; simp only [hb, if_false] at h2; exact R.inj a b c h1 h2
  · by_cases hj : j = i
    · simp only [hj, if_true] at h; cases h; exact ⟨hH0, hA0⟩
    · simp only [hj, if_false] at h; exact R.fre j a h
  · by_cases hj : j = i
    · simp only [hj, if_true] at h; cases h; exact hnot.2
    · simp only [hj, if_false] at h; exact R'.ont j a h
  · by_cases hj : j = i
    · subst hj
      obtain ⟨hl, e'⟩ := List.getElem?_eq_some_iff.mp e
      have hl' : j < ρ.length := by simpa using hl
      have : (ρ.set j x)[j]? = some x := by simp [hl']
      rw [this] at e; cases e
      have hs : (σ.set j (some (V.ref p)))[j]? = some (some (V.ref p)) := by simp [← R.len, hl']
      cases x with
      | no => exact hx.elim
      | v _ => exact hx.elim
      | g _ _ _ => exact hx.elim
      | q _ _ => exact ⟨p, by simp, hs, hx.mono av⟩
      | l ds => exact ⟨p, by simp, hs, hx.mono av⟩
      | m ds => exact ⟨p, by simp, hs, hx.mono av⟩
    · rw [List.getElem?_set_ne (Ne.symm hj)] at e
      have q := R.sl j z e
      have e2 : (σ.set i (some (V.ref p)))[j]? = σ[j]? := List.getElem?_set_ne (Ne.symm hj)
      cases z with
      | no => trivial
      | v z => obtain ⟨u, e1, r⟩ := q; exact ⟨u, by rw [e2]; exact e1, ((r.grow hp).kp kp').mono av⟩
      | l ds => obtain ⟨a, ho, hs, r⟩ := q; exact ⟨a, by simp only [hj, if_false]; exact ho, by rw [e2]; exact hs, ((r.grow hp).kp kp' fun o e => k.fr a o e fun z => (R.fre j a ho).2 (R.wf1 a z)).mono av⟩
      | m ds => obtain ⟨a, ho, hs, r⟩ := q; exact ⟨a, by simp only [hj, if_false]; exact ho, by rw [e2]; exact hs, ((r.grow hp).kp kp' fun o e => k.fr a o e fun z => (R.fre j a ho).2 (R.wf1 a z)).mono av⟩
      | g c a fs =>
        obtain ⟨gs, ho, hs, hg, r⟩ := q
        refine ⟨gs, by simp only [hj, if_false]; exact ho, by rw [e2]; exact hs, fun l g hl => ?_, ((r.grow hp).kp kp' fun l hl o e => k.fr l o e fun z => ?_).mono av⟩
        · rw [List.length_set]
          have := gix_ge (n := σ.length) (i := j) (j := l)
          show (if gix σ.length j l = i then some p else own (gix σ.length j l)) = some g
          rw [if_neg (by omega)]
          exact hg l g hl
        · obtain ⟨j', e'⟩ := gm_own ho hg l hl
          exact (R.fre j' l e').2 (R.wf1 l z)
      | q _ _ => obtain ⟨a, ho, hs, r⟩ := q; exact ⟨a, by simp only [hj, if_false]; exact ho, by rw [e2]; exact hs, ((r.grow hp).kp kp' fun o e => k.fr a o e fun z => (R.fre j a ho).2 (R.wf1 a z)).mono av⟩
  · by_cases hj : j = i
    · simp only [hj, if_true] at h; cases h; exact .inr hp
    · simp only [hj, if_false] at h; exact .inl ⟨j, h⟩
theorem Rel.mine (R : Rel B G own ρ s σ H) {i : Nat} {p : Addr} {x : Sl} (hp : H p = none) (k : Stp G s' H H') (hx : OwnAt B (fun a => Av G own a ∨ a = p) H' p x) :
    ∃ own', Rel B G own' (ρ.set i x) s' (σ.set i (some (.ref p))) H' ∧ Gone G own own' H H' := by
  by_cases h : i < σ.length
  · exact ⟨_, R.mine0 h hp k hx⟩
  · refine ⟨own, ?_, .of_stp k⟩
    rw [List.set_eq_of_length_le (by rw [R.len]; omega), List.set_eq_of_length_le (by omega)]
    exact R.stp k
/-- what is one's own is changed in place -/
theorem Rel.chg (R : Rel B G own ρ s σ H) {i : Nat} {a : Addr} {x : Sl} {o : HO} (hi : own i = some a) (hs : σ[i]? = some (some (.ref a))) (ho : isTu o = false) (hx : OwnAt B (Av G own) (upd H a o) a x) :
    Rel B G own (ρ.set i x) s σ (upd H a o) ∧ Gone G own own H (upd H a o) := by
  have nd : a ∉ G.dks := fun z => (R.fre i a hi).2 (R.wf1 a z)
  have kp : Kp (Av G own) H (upd H a o) := by
    refine ⟨fun b xs ht h => ?_, fun b u h n => ?_⟩
    · by_cases hb : b = a
      · subst hb
        obtain ⟨o', e, n⟩ := R.ont i b hi
        rw [h] at e; cases e; rw [ht] at n; cases n
      · rw [upd_ne hb]; exact h
    · rw [upd_ne]
      · exact h
      · rintro rfl; exact n (.inr ⟨i, hi⟩)
  refine ⟨⟨R.wf1, fun b h => ?_, fun b u h n => ?_, R.dk, SI.keep s H _ R.rs (fun b h => ?_) kp.tup, R.inj, R.fre, fun j b h => ?_, by simp [R.len], fun j z e => ?_⟩, ⟨fun b u h n m => ?_, fun j b h => .inl ⟨j, h⟩⟩⟩
  · by_cases hb : b = a
    · rw [hb, upd_same]; simp
    · rw [upd_ne hb]; exact R.wf2 b h
  · by_cases hb : b = a
    · subst hb
      rw [(R.fre i b hi).1] at h; cases h
    · rw [upd_ne hb]; exact R.fr b u h n
  · rw [upd_ne]
    rintro rfl
    exact nd (by rw [← R.dk]; exact h)
  · by_cases hb : b = a
    · exact ⟨o, by rw [hb, upd_same], ho⟩
    · rw [upd_ne hb]; exact R.ont j b h
  · by_cases hj : j = i
    · subst hj
      obtain ⟨hl, e'⟩ := List.getElem?_eq_some_iff.mp e
      have hl' : j < ρ.length := by simpa using hl
      have : (ρ.set j x)[j]? = some x := by simp [hl']
      rw [this] at e; cases e
      cases x with
      | no => exact hx.elim
      | v _ => exact hx.elim
      | g _ _ _ => exact hx.elim
      | q _ _ => exact ⟨a, hi, hs, hx⟩
      | l ds => exact ⟨a, hi, hs, hx⟩
      | m ds => exact ⟨a, hi, hs, hx⟩
    · rw [List.getElem?_set_ne (Ne.symm hj)] at e
      have q := R.sl j z e
      have nb : ∀ b, own j = some b → ∀ u, H b = some u → upd H a o b = some u := fun b hb u hu => by
        rw [upd_ne]
        · exact hu
        · rintro rfl; exact hj (R.inj _ _ _ hb hi)
      cases z with
      | no => trivial
      | v z => obtain ⟨u, e1, r⟩ := q; exact ⟨u, e1, r.kp kp⟩
      | l ds => obtain ⟨b, hb, hs, r⟩ := q; exact ⟨b, hb, hs, r.kp kp (nb b hb)⟩
      | m ds => obtain ⟨b, hb, hs, r⟩ := q; exact ⟨b, hb, hs, r.kp kp (nb b hb)⟩
      | g c b fs =>
        obtain ⟨gs, hb, hs', hg, r⟩ := q
        refine ⟨gs, hb, hs', hg, r.kp kp fun l hl u hu => ?_⟩
        rw [upd_ne]
        · exact hu
        · rintro rfl
          rcases hl with rfl | hl
          · exact hj (R.inj _ _ _ hb hi)
          · obtain ⟨n, hn, e'⟩ := List.mem_iff_getElem.mp hl
            have e1 := hg n l (by rw [List.getElem?_eq_getElem hn, e'])
            have e2 := R.inj _ _ _ e1 hi
            have e3 := gix_ge (n := σ.length) (i := j) (j := n)
            have e4 := (List.getElem?_eq_some_iff.mp hs).1
            omega
      | q _ _ => obtain ⟨b, hb, hs, r⟩ := q; exact ⟨b, hb, hs, r.kp kp (nb b hb)⟩
  · rw [upd_ne]
    · exact h
    · rintro rfl; exact m i hi
end
section
variable {X : Cx} {B : Bs} {E : XK} {e : Expr} {f : Ex S} {g g' : Sx S} {st : Stmt} {sts : List Stmt} {pos : Pos}
def sNil : Sx S := fun ρ s => .ok (.nx ρ) s
def sSeq (g g' : Sx S) : Sx S := fun ρ s => (g ρ s).bind fun fl s1 => match fl with
  | .nx ρ1 => g' ρ1 s1
  | x => .ok x s1
theorem ds_nil : DSs X B E [] (sNil : Sx S) := pss_imp pss_nil fun Dd σ H ⟨G, own, ρ, s, R, q⟩ => q own σ H R .refl
theorem ds_one (h : DS X B E st g) : DSs X B E [st] g := pss_one h
theorem ds_cons (h : DS X B E st g) (h' : DSs X B E sts g') : DSs X B E (st :: sts) (sSeq g g') := by
  refine pss_imp (pss_cons h h') fun Dd σ H ⟨G, own, ρ, s, R, q⟩ => ⟨G, own, ρ, s, R, q.bnd.mono fun fl s1 q1 => ?_⟩
  cases fl with
  | nx ρ1 => exact fun own1 σ1 H1 R1 x => ⟨G, own1, ρ1, s1, R1, q1.mono fun fl s2 q2 => q2.later R1 x⟩
  | bk _ => exact q1
  | ct _ => exact q1
  | rt _ => exact q1
  | rg _ _ => exact q1
def sBrk : Sx S := fun ρ s => .ok (.bk ρ) s
def sCnt : Sx S := fun ρ s => .ok (.ct ρ) s
def sDrop (f : Ex S) : Sx S := fun ρ s => (f ρ s).bind fun _ s1 => .ok (.nx ρ) s1
def sRet (f : Ex S) : Sx S := fun ρ s => (f ρ s).bind fun y s1 => .ok (.rt y) s1
theorem RtV.ret {A N : Addr → Prop} {H : Hp} {v : V} {y : Val} (h : RtV B A N H v y) (k : ∀ a, N a → A a) : RvV B N H v y := by
  cases h with
  | of h => exact h.mono k
  | lst h n r => exact .lst h n (r.mono k)
  | dic h n r => exact .dic h n (r.mono k)
  | dct h n e r => exact .dct h n e (r.mono k)
theorem ds_ret (h : DB X B E e f) : DS X B E (.Return (some e) pos) (sRet f) := by
  refine ps_imp (ps_ret h) fun Dd σ H ⟨G, own, ρ, s, R, q⟩ => ?_
  refine tB.run R _ q.bnd fun y s1 v H1 q1 k1 r1 R1 => ?_
  exact q1 v H1 R1.frG (r1.ret fun a z => .inl z)
def sRetN : Sx S := fun ρ s => .ok (.rt (.d .none)) s
def sIf (c : Tx S) (g g' : Sx S) : Sx S := fun ρ s => (c ρ s).bind fun b s1 => if b then g ρ s1 else g' ρ s1
theorem ds_if {c : Expr} {fc : Tx S} {a b : List Stmt} (hc : DT X B E c fc) (ha : DSs X B E a g) (hb : DSs X B E b g') : DS X B E (.If c a b pos) (sIf fc g g') := by
  refine ps_imp (ps_if hc ha hb) fun Dd σ H ⟨G, own, ρ, s, R, q⟩ => ?_
  refine tT.run R _ q.bnd fun y s1 H1 q1 k1 R1 => ?_
  cases y with
  | true => exact ⟨G, own, ρ, s1, R1, q1.mono fun fl s2 q2 => q2.later R1 (.of_stp k1)⟩
  | false => exact ⟨G, own, ρ, s1, R1, q1.mono fun fl s2 q2 => q2.later R1 (.of_stp k1)⟩
/-- name = value -/
def sSet (i : Nat) (f : Ex S) : Sx S := fun ρ s => (f ρ s).bind fun y s1 => .ok (.nx (ρ.set i (.v y))) s1
theorem ds_set (c : Ctx X B) (i : Nat) {x : Str} {pos' : Pos} (h : DE X B E e f) (hi : X.N[i]? = some x := by rfl) (hx : Loc X.env.scope x := by first | exact .inl rfl | exact .inr rfl) (hs : swapsWith e (some (.Name x pos')) pos.line X.env = pure false := by rfl)
    (hf : X.fn x = true ∨ X.env.scope.names.lookup x = some .local := by first | exact .inl rfl | exact .inr rfl) : DS X B E (.Assign [.Name x pos'] e pos) (sSet i f) := by
  refine ps_imp (ps_set c.nd hi hx h hs hf) fun Dd σ H ⟨G, own, ρ, s, R, q⟩ => ?_
  refine tD.run R _ q.bnd fun y s1 v H1 q1 k1 r1 R1 => ?_
  exact q1 own _ H1 (R1.set r1) (.of_stp k1)
/-- name = another name's list, which is not asked any more -/
def sMove (i j : Nat) : Sx S := fun ρ s => match ρ[j]? with
  | some (.v y) => .ok (.nx (ρ.set i (.v y))) s
  | some (.l ds) => if i = j then .bad else .ok (.nx ((ρ.set j .no).set i (.l ds))) s
  | some (.m ds) => if i = j then .bad else .ok (.nx ((ρ.set j .no).set i (.m ds))) s
  | _ => .bad
end
end DL
namespace DL
open PySem PySem.Spec PyProof.Rows L2
variable {S : Type} [SI S]
section
variable {B : Bs} {A A' : Addr → Prop} {H : Hp}
mutual
theorem Rp.wk (k : ∀ a, A' a → A a ∨ H a = none) : ∀ {v : V} {d : D}, Rp B A H v d → Rp B A' H v d
  | _, _, .non => .non
  | _, _, .bl b => .bl b
  | _, _, .int i => .int i
  | _, _, .str x => .str x
  | _, _, .lst h n r => .lst h (fun z => (k _ z).elim n fun e => by rw [e] at h; cases h) (RpL.wk k r)
  | _, _, .tup h r => .tup h (RpL.wk k r)
  | _, _, .dic h n r => .dic h (fun z => (k _ z).elim n fun e => by rw [e] at h; cases h) (RpM.wk k r)
  | _, _, .dct h n e r => .dct h (fun z => (k _ z).elim n fun e => by rw [e] at h; cases h) e (RpM.wk k r)
theorem RpL.wk (k : ∀ a, A' a → A a ∨ H a = none) : ∀ {v : List V} {d : List D}, RpL B A H v d → RpL B A' H v d
  | _, _, .nil => .nil
  | _, _, .cons h t => .cons (Rp.wk k h) (RpL.wk k t)
theorem RpM.wk (k : ∀ a, A' a → A a ∨ H a = none) : ∀ {v : List (V × V)} {d : List (D × D)}, RpM B A H v d → RpM B A' H v d
  | _, _, .nil => .nil
  | _, _, .cons h g t => .cons (Rp.wk k h) (Rp.wk k g) (RpM.wk k t)
end
end
def wipeE (vs : List Nat) (ρ : Env) : Env := match vs with
  | [] => ρ
  | v :: vs => (wipeE vs ρ).set v .no
theorem wipe_set {σ : Sg} {i : Nat} {x : Option V} : ∀ {vs : List Nat}, i ∈ vs → wipe (σ.set i x) vs = wipe σ vs
  | [], h => by simp at h
  | v :: vs, h => by
    unfold wipe
    by_cases hm : i ∈ vs
    · rw [wipe_set hm]
    · have e : i = v := by simpa [hm] using h
      subst e
      have : ∀ vs : List Nat, i ∉ vs → wipe (σ.set i x) vs = (wipe σ vs).set i x := by
        intro vs
        induction vs with
        | nil => intro _; rfl
        | cons w ws ih =>
          intro hw
          simp only [List.mem_cons, not_or] at hw
          unfold wipe
          rw [ih hw.2, List.set_comm _ _ (fun e => hw.1 e)]
      rw [this vs hm]
      simp
section
variable {B : Bs} {G : Gh} {own : Own} {ρ : Env} {s : S} {σ : Sg} {H : Hp}
theorem Rel.unset (R : Rel B G own ρ s σ H) (i : Nat) : Rel B G own (ρ.set i .no) s (σ.set i none) H := by
  refine ⟨R.wf1, R.wf2, R.fr, R.dk, R.rs, R.inj, R.fre, R.ont, by simp [R.len], fun j x e => ?_⟩
  by_cases hj : j = i
  · subst hj
    obtain ⟨hl, e'⟩ := List.getElem?_eq_some_iff.mp e
    have hl' : j < ρ.length := by simpa using hl
    have : (ρ.set j .no)[j]? = some .no := by simp [hl']
    rw [this] at e; cases e
    trivial
  · rw [List.getElem?_set_ne (Ne.symm hj)] at e
    have q := R.sl j x e
    have e2 : (σ.set i none)[j]? = σ[j]? := List.getElem?_set_ne (Ne.symm hj)
    cases x with
    | no => trivial
    | v z => obtain ⟨u, e1, r⟩ := q; exact ⟨u, by rw [e2]; exact e1, r⟩
    | l ds => obtain ⟨a, ho, hs, r⟩ := q; exact ⟨a, ho, by rw [e2]; exact hs, r⟩
    | m ds => obtain ⟨a, ho, hs, r⟩ := q; exact ⟨a, ho, by rw [e2]; exact hs, r⟩
    | g c a fs => obtain ⟨gs, ho, hs, hg, r⟩ := q; exact ⟨gs, ho, by rw [e2]; exact hs, by simpa using hg, r⟩
    | q _ _ => obtain ⟨a, ho, hs, r⟩ := q; exact ⟨a, ho, by rw [e2]; exact hs, r⟩
theorem Rel.wiped (R : Rel B G own ρ s σ H) : ∀ vs : List Nat, Rel B G own (wipeE vs ρ) s (wipe σ vs) H
  | [] => R
  | v :: vs => by unfold wipe wipeE; exact (R.wiped vs).unset v
end
abbrev Bt := D → Env → Option Env
abbrev Bts := List D → Env → Option Env
def tG (S : Type) [SI S] (B : Bs) (bt : Bt) (vs : List Nat) : TG := fun v σ H Q => ∃ G own ρ, ∃ s : S, ∃ d ρ', Rel B G own ρ s σ H ∧ Rp B (Av G own) H v d ∧ bt d ρ = some ρ' ∧ ∀ σ', Rel B G own ρ' s σ' H → wipe σ' vs = wipe σ vs → Q σ' H
def tGs (S : Type) [SI S] (B : Bs) (bt : Bts) (vs : List Nat) : TGs := fun v σ H Q => ∃ G own ρ, ∃ s : S, ∃ d ρ', Rel B G own ρ s σ H ∧ RpL B (Av G own) H v d ∧ bt d ρ = some ρ' ∧ ∀ σ', Rel B G own ρ' s σ' H → wipe σ' vs = wipe σ vs → Q σ' H
abbrev DG (S : Type) [SI S] (X : Cx) (B : Bs) (tg : Expr) (bt : Bt) (vs : List Nat) : Prop := PG X tg (tG S B bt vs)
abbrev DGs (S : Type) [SI S] (X : Cx) (B : Bs) (tg : List Expr) (bt : Bts) (vs : List Nat) : Prop := PGs X tg (tGs S B bt vs)
theorem pg_imp {X : Cx} {tg : Expr} {t t' : TG} (h : PG X tg t) (i : ∀ v σ H Q, t' v σ H Q → t v σ H Q) : PG X tg t' := ⟨fun pins s σ H v u Q I r q => h.run pins s σ H v u Q I r (i v σ H Q q)⟩
theorem pgs_imp {X : Cx} {tg : List Expr} {t t' : TGs} (h : PGs X tg t) (i : ∀ v σ H Q, t' v σ H Q → t v σ H Q) : PGs X tg t' := ⟨fun pins s σ H v u Q I r q => h.run pins s σ H v u Q I r (i v σ H Q q)⟩
def btN (i : Nat) : Bt := fun d ρ => some (ρ.set i (.v (.d d)))
def btsN : Bts := fun ds ρ => match ds with
  | [] => some ρ
  | _ => none
def btsC (b : Bt) (bs : Bts) : Bts := fun ds ρ => match ds with
  | [] => none
  | d :: r => (b d ρ).bind fun ρ1 => bs r ρ1
def btT (bs : Bts) : Bt := fun d ρ => match d with
  | .tuple ds => bs ds ρ
  | _ => none
section
variable {X : Cx} {B : Bs} {pos : Pos} {vs : List Nat}
theorem dg_name (nd : X.N.Nodup) (i : Nat) {x : Str} (hi : X.N[i]? = some x := by rfl) (hx : Loc X.env.scope x := by first | exact .inl rfl | exact .inr rfl) (hf : X.fn x = true ∨ X.env.scope.names.lookup x = some .local := by first | exact .inl rfl | exact .inr rfl) (hv : i ∈ vs := by decide) :
    DG S X B (.Name x pos) (btN i) vs := by
  refine pg_imp (pg_name nd hi hx hf) fun v σ H Q ⟨G, own, ρ, s, d, ρ', R, r, e, q⟩ => ?_
  cases e
  exact q _ (R.set (y := .d d) r) (wipe_set hv)
theorem dgs_nil : DGs S X B [] btsN vs := by
  refine pgs_imp pgs_nil fun v σ H Q ⟨G, own, ρ, s, d, ρ', R, r, e, q⟩ => ?_
  cases r with
  | nil => cases e; exact ⟨rfl, q σ R rfl⟩
  | cons _ _ => cases e
theorem dgs_cons {t : Expr} {ts : List Expr} {b : Bt} {bs : Bts} (h : DG S X B t b vs) (hs : DGs S X B ts bs vs) (hst : (assignEach (t :: ts) X.env).map (·.2) = assign t X.env :: (assignEach ts X.env).map (·.2) := by rfl) : DGs S X B (t :: ts) (btsC b bs) vs := by
  refine pgs_imp (pgs_cons h hs hst) fun v σ H Q ⟨G, own, ρ, s, d, ρ', R, r, e, q⟩ => ?_
  cases r with
  | nil => cases e
  | cons h t =>
    obtain ⟨ρ1, e1, e2⟩ := Option.bind_eq_some_iff.mp e
    exact ⟨_, _, rfl, G, own, ρ, s, _, ρ1, R, h, e1, fun σ1 R1 w1 => ⟨G, own, ρ1, s, _, ρ', R1, t, e2, fun σ2 R2 w2 => q σ2 R2 (w2.trans w1)⟩⟩
theorem btsC_len {n : Nat} {bs : Bts} (h : ∀ ds ρ ρ', bs ds ρ = some ρ' → ds.length = n) (b : Bt) : ∀ ds ρ ρ', btsC b bs ds ρ = some ρ' → ds.length = n + 1
  | [], _, _, e => by cases e
  | d :: r, ρ, ρ', e => by
    obtain ⟨ρ1, _, e2⟩ := Option.bind_eq_some_iff.mp e
    rw [List.length_cons, h _ _ _ e2]
theorem btsN_len : ∀ ds ρ ρ', btsN ds ρ = some ρ' → ds.length = 0
  | [], _, _, _ => rfl
  | _ :: _, _, _, e => by cases e
theorem dg_tup (c : Ctx X B) {es : List Expr} {k n : Nat} {bs : Bts} (h : DGs S X B es bs vs) (hl : ∀ ds ρ ρ', bs ds ρ = some ρ' → ds.length = n)
    (hn : (assignEach es X.env).length = n := by rfl) (hst : (assignEach es X.env).findIdx? (·.1) = none := by rfl) : DG S X B (.Tuple es k pos) (btT bs) vs := by
  refine pg_imp (pg_tup c.calm h hn hst) fun v σ H Q ⟨G, own, ρ, s, d, ρ', R, r, e, q⟩ => ?_
  cases r with
  | tup h r =>
    exact ⟨_, _, rfl, by rw [← c.hK]; exact h.sq, by rw [r.len]; exact hl _ _ _ e, G, own, ρ, s, _, ρ', R, r, e, q⟩
  | _ => cases e
end
section
variable {X : Cx} {B : Bs} {E : XK} {e : Expr} {f : Ex S} {g g' : Sx S} {st : Stmt} {sts : List Stmt} {pos : Pos}
def sUnp (bt : Bt) (f : Ex S) : Sx S := fun ρ s => (f ρ s).bind fun y s1 => match y with
  | .d d => (match bt d ρ with
    | some ρ' => .ok (.nx ρ') s1
    | none => .bad)
  | _ => .bad
theorem ds_unp {tg : Expr} {bt : Bt} {vs : List Nat} (h : DE X B E e f) (ht : DG S X B tg bt vs) (hs : swapsWithSole [tg] e pos.line X.env = pure false := by rfl) (hw : swappedStores [tg] e X.env = pure none := by rfl)
    (h1 : (assignEach [tg] X.env).map (·.2) = [assign tg X.env] := by rfl) : DS X B E (.Assign [tg] e pos) (sUnp bt f) := by
  refine ps_imp (ps_asg h ht hs hw h1) fun Dd σ H ⟨G, own, ρ, s, R, q⟩ => ?_
  refine tD.run R _ q.bnd fun y s1 v H1 q1 k1 r1 R1 => ?_
  cases y with
  | r _ => exact q1.elim
  | o _ _ => exact q1.elim
  | p _ => exact q1.elim
  | f _ => exact q1.elim
  | d d =>
    cases hz : bt d ρ with
    | none => simp only [hz] at q1; exact q1.elim
    | some ρ' =>
      simp only [hz] at q1
      exact ⟨G, own, ρ, s1, d, ρ', R1, r1, hz, fun σ' R' _ => q1 own σ' H1 R' (.of_stp k1)⟩
theorem Rel.frz1 {G : Gh} {own : Own} {ρ : Env} {s : S} {σ : Sg} {H : Hp} (R : Rel B G own ρ s σ H) {i : Nat} {a : Addr} {y : Val} (hi : own i = some a) (hs : σ[i]? = some (some (.ref a)))
    (hy : RvV B (Av G fun k => if k = i then none else own k) H (.ref a) y) : Rel B G (fun k => if k = i then none else own k) (ρ.set i (.v y)) s σ H := by
  have av : ∀ b, Av G (fun k => if k = i then none else own k) b → Av G own b := fun b h => by
    rcases h with h | ⟨j, h⟩
    · exact .inl h
    · by_cases hj : j = i
      · simp only [hj, if_true] at h; cases h
      · simp only [hj, if_false] at h; exact .inr ⟨j, h⟩
  have un : ∀ {j b}, (if j = i then none else own j) = some b → j ≠ i ∧ own j = some b := fun {j b} h => by
    by_cases hj : j = i
    · simp only [hj, if_true] at h; cases h
    · simp only [hj, if_false] at h; exact ⟨hj, h⟩
  refine ⟨R.wf1, R.wf2, R.fr, R.dk, R.rs, fun j k b h1 h2 => R.inj j k b (un h1).2 (un h2).2, fun j b h => R.fre j b (un h).2, fun j b h => R.ont j b (un h).2, by simp [R.len], fun j x e => ?_⟩
  by_cases hj : j = i
  · subst hj
    obtain ⟨hl, e'⟩ := List.getElem?_eq_some_iff.mp e
    have hl' : j < ρ.length := by simpa using hl
    have : (ρ.set j (.v y))[j]? = some (.v y) := by simp [hl']
    rw [this] at e; cases e
    exact ⟨_, hs, hy⟩
  · rw [List.getElem?_set_ne (Ne.symm hj)] at e
    have q := R.sl j x e
    cases x with
    | no => trivial
    | v z => obtain ⟨u, e1, r⟩ := q; exact ⟨u, e1, r.mono av⟩
    | l ds => obtain ⟨b, ho, hs, r⟩ := q; exact ⟨b, by simp only [hj, if_false]; exact ho, hs, r.mono av⟩
    | m ds => obtain ⟨b, ho, hs, r⟩ := q; exact ⟨b, by simp only [hj, if_false]; exact ho, hs, r.mono av⟩
    | g c b fs =>
      obtain ⟨gs, ho, hs', hg, r⟩ := q
      refine ⟨gs, by simp only [hj, if_false]; exact ho, hs', fun l g hl => ?_, r.mono av⟩
      have := gix_ge (n := σ.length) (i := j) (j := l)
      have := (List.getElem?_eq_some_iff.mp hs).1
      show (if gix σ.length j l = i then none else own (gix σ.length j l)) = some g
      rw [if_neg (by omega)]
      exact hg l g hl
    | q _ _ => obtain ⟨b, ho, hs, r⟩ := q; exact ⟨b, by simp only [hj, if_false]; exact ho, hs, r.mono av⟩
def frz (i : Nat) (ρ : Env) : Env := match ρ[i]? with
  | some (.l ds) => ρ.set i (.v (.d (.list ds)))
  | some (.m ds) => ρ.set i (.v (.d (.dict ds)))
  | _ => ρ
theorem Rel.frz {G : Gh} {own : Own} {ρ : Env} {s : S} {σ : Sg} {H : Hp} (R : Rel B G own ρ s σ H) (i : Nat) : ∃ own', Rel B G own' (frz i ρ) s σ H ∧ ∀ j a, own' j = some a → own j = some a := by
  unfold DL.frz
  cases z : ρ[i]? with
  | none => exact ⟨own, R, fun _ _ h => h⟩
  | some x =>
    have q := R.sl i x z
    have na : ∀ a, own i = some a → ¬ Av G (fun k => if k = i then none else own k) a := fun a h z => by
      rcases z with z | ⟨j, z⟩
      · exact (R.fre i a h).2 z
      · by_cases hj : j = i
        · simp only [hj, if_true] at z; cases z
        · simp only [hj, if_false] at z; exact hj (R.inj _ _ _ z h)
    have av : ∀ b, Av G (fun k => if k = i then none else own k) b → Av G own b := fun b h => by
      rcases h with h | ⟨j, h⟩
      · exact .inl h
      · by_cases hj : j = i
        · simp only [hj, if_true] at h; cases h
        · simp only [hj, if_false] at h; exact .inr ⟨j, h⟩
    have un : ∀ j a, (if j = i then none else own j) = some a → own j = some a := fun j a h => by
      by_cases hj : j = i
      · simp only [hj, if_true] at h; cases h
      · simp only [hj, if_false] at h; exact h
    cases x with
    | no => exact ⟨own, R, fun _ _ h => h⟩
    | v y => exact ⟨own, R, fun _ _ h => h⟩
    | g _ _ _ => exact ⟨own, R, fun _ _ h => h⟩
    | q _ _ => exact ⟨own, R, fun _ _ h => h⟩
    | l ds =>
      obtain ⟨a, ho, hs, xs, e, r⟩ := q
      exact ⟨_, R.frz1 ho hs (.lst e (na a ho) (r.mono av)), un⟩
    | m ds =>
      obtain ⟨a, ho, hs, q⟩ := q
      rcases q with ⟨ks, e, r⟩ | ⟨ks, e, e2, r⟩
      · exact ⟨_, R.frz1 ho hs (.dic e (na a ho) (r.mono av)), un⟩
      · exact ⟨_, R.frz1 ho hs (.dct e (na a ho) e2 (r.mono av)), un⟩
theorem Post.less {G : Gh} {own own' : Own} {H : Hp} {Dd : Ends} {fl : Fl} {s' : S} (k : ∀ j a, own' j = some a → own j = some a) (h : Post B G own H Dd fl s') : Post B G own' H Dd fl s' := by
  have go : ∀ {own2 H2}, Gone G own' own2 H H2 → Gone G own own2 H H2 := fun {own2 H2} x => ⟨fun a o e n m => x.keep a o e n fun i z => m i (k i a z), fun i a e => (x.news i a e).elim (fun ⟨j, z⟩ => .inl ⟨j, k j a z⟩) .inr⟩
  cases fl with
  | nx ρ' => exact fun own2 σ2 H2 R2 y => h own2 σ2 H2 R2 (go y)
  | bk ρ' => exact fun own2 σ2 H2 R2 y => h own2 σ2 H2 R2 (go y)
  | ct ρ' => exact fun own2 σ2 H2 R2 y => h own2 σ2 H2 R2 (go y)
  | rt y => exact h
  | rg y ρ' => exact fun v own2 σ2 H2 R2 y => h v own2 σ2 H2 R2 (go y)
def sFrz (i : Nat) (g : Sx S) : Sx S := fun ρ s => g (frz i ρ) s
theorem ds_frz (i : Nat) (h : DS X B E st g) : DS X B E st (sFrz i g) := by
  refine ps_imp h fun Dd σ H ⟨G, own, ρ, s, R, q⟩ => ?_
  obtain ⟨own', R', k⟩ := R.frz i
  exact ⟨G, own', _, s, R', q.mono fun fl s' q => q.less k⟩
theorem ds_move (c : Ctx X B) (i j : Nat) {x y : Str} {pos' p2 : Pos} (hj : X.N[j]? = some y := by rfl) (hv : Vis X.env.scope y := by first | exact .inl rfl | exact .inr (.inl rfl) | exact .inr (.inr rfl)) (hi : X.N[i]? = some x := by rfl) (hx : Loc X.env.scope x := by first | exact .inl rfl | exact .inr rfl)
    (hs : swapsWith (.Name y p2) (some (.Name x pos')) pos.line X.env = pure false := by rfl) (hf : X.fn x = true ∨ X.env.scope.names.lookup x = some .local := by first | exact .inl rfl | exact .inr rfl)
    (hd : (y == ("__debug__" : Str)) = false := by decide) (hcd : (y == ("__classdict__" : Str)) = false := by decide) : DS X B E (.Assign [.Name x pos'] (.Name y p2) pos) (sMove i j : Sx S) := by
  refine ps_imp (ps_set c.nd hi hx (pe_var hj hv hd hcd) hs hf) fun Dd σ H ⟨G, own, ρ, s, R, q⟩ => ?_
  have mv : ∀ (z : Sl), ρ[j]? = some z → (∃ a, own j = some a ∧ σ[j]? = some (some (V.ref a)) ∧ OwnAt B (Av G own) H a z) → i ≠ j → (∀ own' σ' H', Rel B G own' ((ρ.set j .no).set i z) s σ' H' → Gone G own own' H H' → Dd.nx σ' H') →
      tAsg (tVar j) (gName i) Dd σ H := by
    rintro z hz ⟨a, ho, hs, hx⟩ hij q
    by_cases hil : i < σ.length
    case neg =>
      have q' := q (fun k => if k = j then none else own k) (σ.set i (some (V.ref a))) H
      have e1 : (ρ.set j .no).set i z = ρ.set j .no := List.set_eq_of_length_le (by rw [List.length_set, R.len]; omega)
      have e2 : σ.set i (some (V.ref a)) = σ := List.set_eq_of_length_le (by omega)
      rw [e1, e2] at q'
      refine ⟨_, hs, ?_⟩
      show Dd.nx (σ.set i (some (V.ref a))) H
      rw [e2]
      have av : ∀ b, Av G (fun k => if k = j then none else own k) b → Av G own b := fun b h => by
        rcases h with h | ⟨k, h⟩
        · exact .inl h
        · by_cases hk : k = j
          · simp only [hk, if_true] at h; cases h
          · simp only [hk, if_false] at h; exact .inr ⟨k, h⟩
      have un : ∀ {k b}, (if k = j then none else own k) = some b → k ≠ j ∧ own k = some b := fun {k b} h => by
        by_cases hk : k = j
        · simp only [hk, if_true] at h; cases h
        · simp only [hk, if_false] at h; exact ⟨hk, h⟩
      refine q' ⟨R.wf1, R.wf2, R.fr, R.dk, R.rs, fun k l b h1 h2 => R.inj k l b (un h1).2 (un h2).2, fun k b h => R.fre k b (un h).2, fun k b h => R.ont k b (un h).2, by simp [R.len], fun k x e => ?_⟩ ⟨fun _ _ h _ _ => h, fun k b h => .inl ⟨k, (un h).2⟩⟩
      by_cases hk : k = j
      · subst hk
        obtain ⟨hl, e'⟩ := List.getElem?_eq_some_iff.mp e
        have hl' : k < ρ.length := by simpa using hl
        have : (ρ.set k .no)[k]? = some .no := by simp [hl']
        rw [this] at e; cases e
        trivial
      · rw [List.getElem?_set_ne (Ne.symm hk)] at e
        have q := R.sl k x e
        cases x with
        | no => trivial
        | v z => obtain ⟨u, e1, r⟩ := q; exact ⟨u, e1, r.mono av⟩
        | l ds => obtain ⟨b, ho, hs, r⟩ := q; exact ⟨b, by simp only [hk, if_false]; exact ho, hs, r.mono av⟩
        | m ds => obtain ⟨b, ho, hs, r⟩ := q; exact ⟨b, by simp only [hk, if_false]; exact ho, hs, r.mono av⟩
        | g c b fs =>
          obtain ⟨gs, ho, hs', hg, r⟩ := q
          refine ⟨gs, by simp only [hk, if_false]; exact ho, hs', fun l g hl => ?_, r.mono av⟩
          have := gix_ge (n := σ.length) (i := k) (j := l)
          have := (List.getElem?_eq_some_iff.mp hs).1
          show (if gix σ.length k l = j then none else own (gix σ.length k l)) = some g
          rw [if_neg (by omega)]
          exact hg l g hl
        | q _ _ => obtain ⟨b, ho, hs, r⟩ := q; exact ⟨b, by simp only [hk, if_false]; exact ho, hs, r.mono av⟩
    refine ⟨_, hs, q (fun k => if k = i then some a else if k = j then none else own k) _ H ?_ ⟨fun _ _ h _ _ => h, fun k b h => ?_⟩⟩
    · have un : ∀ {k b}, (if k = i then some a else if k = j then none else own k) = some b → ∃ l, own l = some b ∧ (k = i ∧ l = j ∨ k = l ∧ k ≠ i ∧ k ≠ j) := fun {k b} h => by
        by_cases hk : k = i
        · simp only [hk, if_true] at h; cases h; exact ⟨j, ho, .inl ⟨hk, rfl⟩⟩
        · by_cases hk2 : k = j
          · simp only [hk, if_false, hk2, if_true] at h
            split at h
            · rename_i e; exact absurd e.symm hij
            · cases h
          · simp only [hk, hk2, if_false] at h; exact ⟨k, h, .inr ⟨rfl, hk, hk2⟩⟩
      have av : ∀ b, Av G (fun k => if k = i then some a else if k = j then none else own k) b → Av G own b := fun b h => by
        rcases h with h | ⟨k, h⟩
        · exact .inl h
        · obtain ⟨l, e, _⟩ := un h; exact .inr ⟨l, e⟩
      refine ⟨R.wf1, R.wf2, R.fr, R.dk, R.rs, fun k l b h1 h2 => ?_, fun k b h => ?_, fun k b h => ?_, by simp [R.len], fun k x e => ?_⟩
      · obtain ⟨k', e1, c1⟩ := un h1
        obtain ⟨l', e2, c2⟩ := un h2
        have := R.inj _ _ _ e1 e2
        subst this
        rcases c1 with ⟨c1, d1⟩ | ⟨c1, d1, f1⟩ <;> rcases c2 with ⟨c2, d2⟩ | ⟨c2, d2, f2⟩ <;> omega
      · obtain ⟨l, e, _⟩ := un h; exact R.fre l b e
      · obtain ⟨l, e, _⟩ := un h; exact R.ont l b e
      · by_cases hk : k = i
        · subst hk
          obtain ⟨hl, e'⟩ := List.getElem?_eq_some_iff.mp e
          have hl' : k < ρ.length := by simpa using hl
          have : ((ρ.set j .no).set k z)[k]? = some z := by simp [hl']
          rw [this] at e; cases e
          have hs' : (σ.set k (some (V.ref a)))[k]? = some (some (V.ref a)) := by simp [← R.len, hl']
          cases z with
          | no => exact hx.elim
          | v _ => exact hx.elim
          | g _ _ _ => exact hx.elim
          | q _ _ => exact ⟨a, by simp, hs', hx.mono av⟩
          | l ds => exact ⟨a, by simp, hs', hx.mono av⟩
          | m ds => exact ⟨a, by simp, hs', hx.mono av⟩
        · rw [List.getElem?_set_ne (Ne.symm hk)] at e
          have e2 : (σ.set i (some (V.ref a)))[k]? = σ[k]? := List.getElem?_set_ne (Ne.symm hk)
          by_cases hk2 : k = j
          · subst hk2
            obtain ⟨hl, e'⟩ := List.getElem?_eq_some_iff.mp e
            have hl' : k < ρ.length := by simpa using hl
            have : (ρ.set k .no)[k]? = some .no := by simp [hl']
            rw [this] at e; cases e
            trivial
          · rw [List.getElem?_set_ne (Ne.symm hk2)] at e
            have q := R.sl k x e
            cases x with
            | no => trivial
            | v z => obtain ⟨u, e1, r⟩ := q; exact ⟨u, by rw [e2]; exact e1, r.mono av⟩
            | l ds => obtain ⟨b, ho, hs, r⟩ := q; exact ⟨b, by simp only [hk, hk2, if_false]; exact ho, by rw [e2]; exact hs, r.mono av⟩
            | m ds => obtain ⟨b, ho, hs, r⟩ := q; exact ⟨b, by simp only [hk, hk2, if_false]; exact ho, by rw [e2]; exact hs, r.mono av⟩
            | g c b fs =>
              obtain ⟨gs, ho, hs', hg, r⟩ := q
              refine ⟨gs, by simp only [hk, hk2, if_false]; exact ho, by rw [e2]; exact hs', fun l g hl => ?_, r.mono av⟩
              rw [List.length_set]
              have := gix_ge (n := σ.length) (i := k) (j := l)
              have := (List.getElem?_eq_some_iff.mp hs).1
              show (if gix σ.length k l = i then some a else if gix σ.length k l = j then none else own (gix σ.length k l)) = some g
              rw [if_neg (by omega), if_neg (by omega)]
              exact hg l g hl
            | q _ _ => obtain ⟨b, ho, hs, r⟩ := q; exact ⟨b, by simp only [hk, hk2, if_false]; exact ho, by rw [e2]; exact hs, r.mono av⟩
    · by_cases hk : k = i
      · simp only [hk, if_true] at h; cases h; exact .inl ⟨j, ho⟩
      · by_cases hk2 : k = j
        · simp only [hk, if_false, hk2, if_true] at h
          split at h
          · rename_i e; exact absurd e.symm hij
          · cases h
        · simp only [hk, hk2, if_false] at h; exact .inl ⟨k, h⟩
  unfold sMove at q
  cases z : ρ[j]? with
  | none => rw [z] at q; exact q.elim
  | some x =>
    rw [z] at q
    have p := R.sl j x z
    cases x with
    | no => exact q.elim
    | v y =>
      obtain ⟨u, e, r⟩ := p
      exact ⟨u, e, q own _ H (R.set r) .refl⟩
    | l ds =>
      dsimp only at q
      split at q
      · exact q.elim
      · rename_i hij
        exact mv _ z p hij q
    | g _ _ _ => exact q.elim
    | q _ _ => exact q.elim
    | m ds =>
      dsimp only at q
      split at q
      · exact q.elim
      · rename_i hij
        exact mv _ z p hij q
abbrev Lx (S : Type) := Env → S → Out S (List D)
def tF (B : Bs) (E : XK) (f : Lx S) : TE := fun σ H Q => ∃ G own ρ s, Rel B G own ρ s σ H ∧ (f ρ s).sat (fun ds s' => ∀ p H' xs, Stp G s' H H' → H p = none → H' p = some (.lst xs) → RpL B (fun a => Av G own a ∨ a = p) H' xs ds → Q (.ref p) H') fun e s' => ExW B G E e s'
abbrev DF (X : Cx) (B : Bs) (E : XK) (e : Expr) (f : Lx S) : Prop := PE X e (tF B E f)
def eL (f : Lx S) : Ex S := fun ρ s => (f ρ s).bind fun ds s1 => .ok (.d (.list ds)) s1
theorem DF.de {f : Lx S} (h : DF X B E e f) : DE X B E e (eL f) := by
  refine pe_imp h fun σ H Q ⟨G, own, ρ, s, R, q⟩ => ?_
  refine ⟨G, own, ρ, s, R, q.bnd.mono fun ds s1 q1 p H1 xs k hp e r => ?_⟩
  exact q1 _ H1 k (.lst e (R.fresh hp) (r.mono fun a z => .inl z))
def lSeq (g : Exs S) : Lx S := fun ρ s => (g ρ s).bind fun ys s1 => match datas ys with
  | some ds => if ds.length ≤ sizeLine then .ok ds s1 else .bad
  | none => .bad
theorem df_lst {es : List Expr} {g : Exs S} (h : DV X B E es g) : DF X B E (.List es pos) (lSeq g) := by
  refine pe_imp (pe_lst h) fun σ H Q ⟨G, own, ρ, s, R, q⟩ => ?_
  refine ⟨G, own, ρ, s, R, q.bnd.mono fun z s2 q2 w H2 k2 r2 => ?_⟩
  cases e : datas z with
  | none => simp only [e] at q2; exact q2.elim
  | some ds =>
    have rl := r2.datas e
    simp only [e] at q2
    split at q2
    · rename_i hl
      refine ⟨by rw [rl.len]; exact hl, fun p hp => q2 p _ w (k2.trans ((R.stp k2).put hp)) ?_ upd_same ((rl.grow hp).kp (kp_same (same_upd hp)))⟩
      cases z : H p with
      | none => rfl
      | some o =>
        by_cases hd : p ∈ G.dks
        · obtain ⟨o', e, _⟩ := (R.stp k2).dkT hd
          rw [hp] at e; cases e
        · rw [k2.fr p o z hd] at hp; cases hp
    · exact q2.elim
theorem Stp.none {G : Gh} {own : Own} {ρ : Env} {s' : S} {σ : Sg} {H H' : Hp} (R' : Rel B G own ρ s' σ H') (k : Stp G s' H H') {p : Addr} (hp : H' p = none) : H p = none := by
  cases z : H p with
  | none => rfl
  | some o =>
    by_cases hd : p ∈ G.dks
    · obtain ⟨o', e, _⟩ := R'.dkT hd
      rw [hp] at e; cases e
    · rw [k.fr p o z hd] at hp; cases hp
/-- name = a new list, one's own -/
def sNew (i : Nat) (f : Lx S) : Sx S := fun ρ s => (f ρ s).bind fun ds s1 => .ok (.nx (ρ.set i (.l ds))) s1
theorem ds_new (c : Ctx X B) (i : Nat) {x : Str} {pos' : Pos} {f : Lx S} (h : DF X B E e f) (hi : X.N[i]? = some x := by rfl) (hx : Loc X.env.scope x := by first | exact .inl rfl | exact .inr rfl) (hs : swapsWith e (some (.Name x pos')) pos.line X.env = pure false := by rfl)
    (hf : X.fn x = true ∨ X.env.scope.names.lookup x = some .local := by first | exact .inl rfl | exact .inr rfl) : DS X B E (.Assign [.Name x pos'] e pos) (sNew i f) := by
  refine ps_imp (ps_set c.nd hi hx h hs hf) fun Dd σ H ⟨G, own, ρ, s, R, q⟩ => ?_
  refine ⟨G, own, ρ, s, R, q.bnd.mono fun ds s1 q1 p H1 xs k hp e r => ?_⟩
  obtain ⟨_, R', g⟩ := R.mine (i := i) (x := .l ds) hp k ⟨xs, e, r⟩
  exact q1 _ _ H1 R' g
theorem ty_list {K : PySem.W.Frag} {H : Hp} {a : Addr} {xs : List V} (h : H a = some (.lst xs)) : tyV K "list" (.ref a) H := .inl ⟨rfl, _, SqL.of h⟩
def sApp (i : Nat) (f : Ex S) : Sx S := fun ρ s => match ρ[i]? with
  | some (.l ds) => (f ρ s).bind fun y s1 => (match y with
    | .d z => if ds.length < sizeLine then .ok (.nx (ρ.set i (.l (ds ++ [z])))) s1 else .bad
    | _ => .bad)
  | _ => .bad
theorem ds_app (c : Ctx X B) (i : Nat) (hp : PE X e (tBM X.K "list" rAppend (tVar i) (tCons (tD B E f) tNil))) (hs : swapsWith e none pos.line X.env = pure false := by rfl) : DS X B E (.Expr e pos) (sApp i f) := by
  refine ps_imp (ps_expr hp hs) fun Dd σ H ⟨G, own, ρ, s, R, q⟩ => ?_
  unfold sApp at q
  cases z : ρ[i]? with
  | none => rw [z] at q; exact q.elim
  | some x =>
    rw [z] at q
    have p := R.sl i x z
    cases x with
    | l ds =>
      obtain ⟨a, ho, hs, xs, hx, r⟩ := p
      refine ⟨_, hs, ty_list hx, ?_⟩
      refine tD.run R _ q.bnd fun y s1 v H1 q1 k1 r1 R1 => ?_
      have hd : a ∉ G.dks := fun z => (R.fre i a ho).2 (R.wf1 a z)
      have hx1 := k1.fr a _ hx hd
      have r' := RpL.kp (R.kp k1) r
      cases y with
      | r _ => exact q1.elim
      | o _ _ => exact q1.elim
      | p _ => exact q1.elim
      | f _ => exact q1.elim
      | d d =>
        dsimp only at q1
        split at q1
        · rename_i hl
          have kp : Kp (Av G own) H1 (upd H1 a (.lst (xs ++ [v]))) := by
            refine ⟨fun b ys ht h => ?_, fun b u h n => ?_⟩
            · rw [upd_ne]
              · exact h
              · rintro rfl; rw [hx1] at h; cases h; cases ht
            · rw [upd_ne]
              · exact h
              · rintro rfl; exact n (.inr ⟨i, ho⟩)
          obtain ⟨R2, g2⟩ := R1.chg (x := .l (ds ++ [d])) (o := .lst (xs ++ [v])) ho hs rfl ⟨_, upd_same, RpL.kp kp (r'.app (.cons r1 .nil))⟩
          exact ⟨a, xs, v, rfl, rfl, hx1, by rw [r.len]; exact hl, q1 own σ _ R2 ((Gone.of_stp k1).trans R1 g2)⟩
        · exact q1.elim
    | _ => exact q.elim
def sExt (i : Nat) (f : Ex S) : Sx S := fun ρ s => match ρ[i]? with
  | some (.l ds) => (f ρ s).bind fun y s1 => (match y with
    | .d (.list zs) => if ds.length + zs.length ≤ sizeLine then .ok (.nx (ρ.set i (.l (ds ++ zs)))) s1 else .bad
    | _ => .bad)
  | _ => .bad
theorem ds_ext (c : Ctx X B) (i : Nat) (hp : PE X e (tBM X.K "list" rExtend (tVar i) (tCons (tB B E f) tNil))) (hs : swapsWith e none pos.line X.env = pure false := by rfl) : DS X B E (.Expr e pos) (sExt i f) := by
  refine ps_imp (ps_expr hp hs) fun Dd σ H ⟨G, own, ρ, s, R, q⟩ => ?_
  unfold sExt at q
  cases z : ρ[i]? with
  | none => rw [z] at q; exact q.elim
  | some x =>
    rw [z] at q
    have p := R.sl i x z
    cases x with
    | l ds =>
      obtain ⟨a, ho, hs, xs, hx, r⟩ := p
      refine ⟨_, hs, ty_list hx, ?_⟩
      refine tB.run R _ q.bnd fun y s1 v H1 q1 k1 r1 R1 => ?_
      have hd : a ∉ G.dks := fun z => (R.fre i a ho).2 (R.wf1 a z)
      have hx1 := k1.fr a _ hx hd
      have r' := RpL.kp (R.kp k1) r
      cases y with
      | r _ => exact q1.elim
      | o _ _ => exact q1.elim
      | p _ => exact q1.elim
      | f _ => exact q1.elim
      | d d =>
        cases d with
        | list zs =>
          dsimp only at q1
          split at q1
          · rename_i hl
            obtain ⟨b, ys, rfl, hb, ry⟩ := rt_lst r1
            have kp : Kp (Av G own) H1 (upd H1 a (.lst (xs ++ ys))) := by
              refine ⟨fun b ys ht h => ?_, fun b u h n => ?_⟩
              · rw [upd_ne]
                · exact h
                · rintro rfl; rw [hx1] at h; cases h; cases ht
              · rw [upd_ne]
                · exact h
                · rintro rfl; exact n (.inr ⟨i, ho⟩)
            obtain ⟨R2, g2⟩ := R1.chg (x := .l (ds ++ zs)) (o := .lst (xs ++ ys)) ho hs rfl ⟨_, upd_same, RpL.kp kp (r'.app ry)⟩
            exact ⟨a, b, xs, ys, rfl, rfl, hx1, hb, by rw [r.len, ry.len]; exact hl, q1 own σ _ R2 ((Gone.of_stp k1).trans R1 g2)⟩
          · exact q1.elim
        | _ => exact q1.elim
    | _ => exact q.elim
end
end DL
namespace DL
open PySem PySem.Spec PyProof.Rows L2
variable {S : Type} [SI S]
/-- J walks ds, whatever is changed where U says -/
def ItOk (B : Bs) (A U : Addr → Prop) (J : It) (ds : List D) (H1 : Hp) : Prop := ∀ H2, (∀ a o, H1 a = some o → ¬ U a → H2 a = some o) →
  (∀ i d, ds[i]? = some d → J.go i H2 ∧ ∀ x H3, J.yld i H2 x H3 → Same H2 H3 ∧ ∀ A', (∀ a, A' a → A a ∨ H1 a = none) → Rp B A' H3 x d) ∧ J.stop ds.length H2
/-- cmp: in a comprehension (nothing of one's own changes) -/
def Chg (G : Gh) (own : Own) (cmp : Bool) (a : Addr) : Prop := a ∈ G.dks ∨ (cmp = false ∧ ∃ i, own i = some a)
def tI (B : Bs) (E : XK) (cmp : Bool) (f : Lx S) : TI := fun σ H R => ∃ G own ρ s, Rel B G own ρ s σ H ∧ (f ρ s).sat (fun ds s' => ∀ J H1, Stp G s' H H1 → ItOk B (Av G own) (Chg G own cmp) J ds H1 → R J H1) fun e s' => ExW B G E e s'
abbrev DI (X : Cx) (B : Bs) (E : XK) (cmp : Bool) (tg e : Expr) (f : Lx S) : Prop := PI X tg e (tI B E cmp f)
section
variable {B : Bs} {G : Gh} {own : Own} {ρ : Env} {s s' : S} {σ : Sg} {H H1 : Hp}
theorem Chg.av (R : Rel B G own ρ s σ H) {cmp : Bool} {a : Addr} (h : Chg G own cmp a) : Av G own a := h.elim (fun z => R.dkA a z) fun z => .inr z.2
theorem Rel.noT (R : Rel B G own ρ s σ H) {cmp : Bool} {a : Addr} {u : HO} (ht : isTu u = true) (h : H a = some u) : ¬ Chg G own cmp a := fun z => by
  rcases z with z | ⟨_, i, z⟩
  · obtain ⟨o, e, n⟩ := R.dkT z
    rw [h] at e; cases e; rw [ht] at n; cases n
  · obtain ⟨o, e, n⟩ := R.ont i a z
    rw [h] at e; cases e; rw [ht] at n; cases n
/-- what stands for data still does -/
theorem ItOk.item (R : Rel B G own ρ s σ H1) {cmp : Bool} {H2 H3 : Hp} (k : ∀ a o, H1 a = some o → ¬ Chg G own cmp a → H2 a = some o) (sm : Same H2 H3) {x : V} {d : D} (h : Rp B (Av G own) H1 x d) :
    ∀ A', (∀ a, A' a → Av G own a ∨ H1 a = none) → Rp B A' H3 x d := fun A' hA => by
  have h2 : Rp B (fun a => A' a ∨ Av G own a) H1 x d := Rp.wk (fun a z => z.elim (hA a) .inl) h
  have kp : Kp (fun a => A' a ∨ Av G own a) H1 H3 := ⟨fun a u ht e => sm a _ (k a _ e (R.noT ht e)), fun a o e n => sm a _ (k a o e fun z => n (.inr (Chg.av R z)))⟩
  exact (h2.kp kp).mono fun _ z => .inl z
theorem tp_kept (R : Rel B G own ρ s σ H1) {cmp : Bool} {H2 : Hp} (k : ∀ a o, H1 a = some o → ¬ Chg G own cmp a → H2 a = some o) {K : PySem.W.Frag} {a : Addr} {xs : List V} (h : Tp K H1 a xs) : Tp K H2 a xs := by
  rcases h with (h | ⟨o, h⟩) | h
  · exact .inl (.inl (k a _ h (R.noT rfl h)))
  · exact .inl (.inr ⟨o, k a _ h (R.noT rfl h)⟩)
  · exact .inr h
theorem it_tup {K : PySem.W.Frag} (R : Rel B G own ρ s σ H1) {cmp : Bool} {a : Addr} {xs : List V} {ds : List D} (h : Tp K H1 a xs) (r : RpL B (Av G own) H1 xs ds) : ItOk B (Av G own) (Chg G own cmp) (Itt K a) ds H1 := by
  intro H2 k
  have h2 := tp_kept R k h
  refine ⟨fun i d e => ?_, xs, h2.sq, by rw [r.len]; exact Nat.le_refl _⟩
  obtain ⟨x, ex, rx⟩ := r.get' e
  refine ⟨⟨xs, x, h2.sq, ex⟩, ?_⟩
  rintro y H3 ⟨rfl, hy⟩
  have := hy xs h2.sq
  rw [ex] at this; cases this
  exact ⟨Same.refl _, ItOk.item R k (Same.refl _) rx⟩
theorem it_lst {K : PySem.W.Frag} (R : Rel B G own ρ s σ H1) {cmp : Bool} {a : Addr} {xs : List V} {ds : List D} (h : H1 a = some (.lst xs)) (n : ¬ Chg G own cmp a) (r : RpL B (Av G own) H1 xs ds) : ItOk B (Av G own) (Chg G own cmp) (Itl K a) ds H1 := by
  intro H2 k
  have h2 := SqL.of (K := K) (k a _ h n)
  refine ⟨fun i d e => ?_, xs, h2, by rw [r.len]; exact Nat.le_refl _⟩
  obtain ⟨x, ex, rx⟩ := r.get' e
  refine ⟨⟨xs, x, h2, ex⟩, ?_⟩
  rintro y H3 ⟨rfl, hy⟩
  have := hy xs h2
  rw [ex] at this; cases this
  exact ⟨Same.refl _, ItOk.item R k (Same.refl _) rx⟩
theorem it_rng (R : Rel B G own ρ s σ H1) {cmp : Bool} {lo : Int} {n : Nat} : ItOk B (Av G own) (Chg G own cmp) (Itr lo n) ((List.range n).map fun i => .int (lo + (i : Nat))) H1 := by
  intro H2 k
  refine ⟨fun i d e => ?_, by show n ≤ _; simp⟩
  rw [List.getElem?_map] at e
  by_cases hi : i < n
  · rw [List.getElem?_range hi] at e
    cases e
    refine ⟨hi, ?_⟩
    rintro y H3 ⟨rfl, rfl⟩
    exact ⟨Same.refl _, fun _ _ => .int _⟩
  · rw [List.getElem?_eq_none (by simpa using hi)] at e; cases e
end
section
variable {X : Cx} {B : Bs} {E : XK} {e a b c tg : Expr} {f fa fb : Ex S} {g : Exs S} {pos p : Pos}
def iSeq (f : Ex S) : Lx S := fun ρ s => (f ρ s).bind fun y s1 => match y with
  | .d (.list ds) => .ok ds s1
  | .d (.tuple ds) => .ok ds s1
  | _ => .bad
theorem sat_eq {α : Type} {o : Out S α} {P : α → S → Prop} {T : Exn → S → Prop} (h : o.sat P T) : (∃ y s', o = .ok y s' ∧ P y s') ∨ ∃ e s', o = .ex e s' ∧ T e s' := by
  cases o with
  | bad => exact h.elim
  | ok y s' => exact .inl ⟨y, s', rfl, h⟩
  | ex e s' => exact .inr ⟨e, s', rfl, h⟩
theorem di_seq (hB : B.K = X.K) {cmp : Bool} (h : DE X B E e f) : DI X B E cmp tg e (iSeq f) := by
  refine pi_imp (pi_or (pi_list h) (pi_tup h)) fun σ H R' ⟨G, own, ρ, s, R, q⟩ => ?_
  have q1 := Out.sat.bnd q
  rcases sat_eq q1 with ⟨y, s1, e1, q2⟩ | ⟨y, s1, e1, q2⟩
  · have go : ∀ (P : Val → S → Prop), P y s1 → (f ρ s).sat P fun e s' => ExW B G E e s' := fun P hP => by rw [e1]; exact hP
    cases y with
    | r _ => exact q2.elim
    | o _ _ => exact q2.elim
    | p _ => exact q2.elim
    | f _ => exact q2.elim
    | d d =>
      cases d with
      | list ds =>
        refine .inl ⟨G, own, ρ, s, R, go _ fun v H1 k r => ?_⟩
        cases r with
        | lst h n r => 
          exact ⟨_, rfl, ⟨_, SqL.of h⟩, q2 _ H1 k (it_lst (R.stp k) h (fun z => n (Chg.av (R.stp k) z)) r)⟩
      | tuple ds =>
        refine .inr ⟨G, own, ρ, s, R, go _ fun v H1 k r => ?_⟩
        cases r with
        | tup h r => 
          refine ⟨_, rfl, ⟨_, by rw [← hB]; exact h.sq⟩, q2 _ H1 k (by rw [← hB]; exact it_tup (R.stp k) h r)⟩
      | _ => exact q2.elim
  · exact .inl ⟨G, own, ρ, s, R, by rw [e1]; exact q2⟩
theorem di_seqB (hB : B.K = X.K) (h : DB X B E e f) : DI X B E true tg e (iSeq f) := by
  refine pi_imp (pi_or (pi_list h) (pi_tup h)) fun σ H R' ⟨G, own, ρ, s, R, q⟩ => ?_
  have q1 := Out.sat.bnd q
  rcases sat_eq q1 with ⟨y, s1, e1, q2⟩ | ⟨y, s1, e1, q2⟩
  · have go : ∀ (P : Val → S → Prop), P y s1 → (f ρ s).sat P fun e s' => ExW B G E e s' := fun P hP => by rw [e1]; exact hP
    have nc : ∀ a, ¬ G.A0 a → ¬ Chg G own true a := fun a n z => z.elim (fun z => n (R.wf1 a z)) fun z => by cases z.1
    cases y with
    | r _ => exact q2.elim
    | o _ _ => exact q2.elim
    | p _ => exact q2.elim
    | f _ => exact q2.elim
    | d d =>
      cases d with
      | list ds =>
        refine .inl ⟨G, own, ρ, s, R, go _ fun v H1 k r => ?_⟩
        cases r with
        | lst h n r => exact ⟨_, rfl, ⟨_, SqL.of h⟩, q2 _ H1 k (it_lst (R.stp k) h (nc _ n) r)⟩
        | of r =>
          cases r with
          | lst h n r => exact ⟨_, rfl, ⟨_, SqL.of h⟩, q2 _ H1 k (it_lst (R.stp k) h (fun z => n (Chg.av (R.stp k) z)) r)⟩
      | tuple ds =>
        refine .inr ⟨G, own, ρ, s, R, go _ fun v H1 k r => ?_⟩
        cases r with
        | of r =>
          cases r with
          | tup h r => exact ⟨_, rfl, ⟨_, by rw [← hB]; exact h.sq⟩, q2 _ H1 k (by rw [← hB]; exact it_tup (R.stp k) h r)⟩
      | _ => exact q2.elim
  · exact .inl ⟨G, own, ρ, s, R, by rw [e1]; exact q2⟩
/-- the ints lo, lo + 1, .. -/
def rngD (lo : Int) (n : Nat) : List D := (List.range n).map fun i => .int (lo + (i : Nat))
def rngC (lo c : Int) (n : Nat) : List D := (List.range n).map fun i => .int (lo + (i : Nat) * c)
def small62 (i : Int) : Bool := decide (-(2 ^ 62) ≤ i ∧ i < 2 ^ 62)
def iRg1 (g : Exs S) : Lx S := fun ρ s => (g ρ s).bind fun ys s1 => match ys with
  | [.d (.int j)] => if small62 j then .ok (rngD 0 j.toNat) s1 else .bad
  | _ => .bad
def iRg2 (g : Exs S) : Lx S := fun ρ s => (g ρ s).bind fun ys s1 => match ys with
  | [.d (.int i), .d (.int j)] => if small62 i && small62 j then .ok (rngD i (j - i).toNat) s1 else .bad
  | _ => .bad
/-- range(i, j, -1) -/
def iRg3 (g : Exs S) : Lx S := fun ρ s => (g ρ s).bind fun ys s1 => match ys with
  | [.d (.int i), .d (.int j), .d (.int (-1))] => if small62 i && small62 j then .ok (rngC i (-1) (i - j).toNat) s1 else .bad
  | _ => .bad
theorem rtl1 {A N : Addr → Prop} {H : Hp} {vs : List V} {y : Val} (h : RtL B A N H vs [y]) : ∃ v, vs = [v] ∧ RtV B A N H v y := by
  cases h with
  | cons h t => cases t; exact ⟨_, rfl, h⟩
theorem rtl2 {A N : Addr → Prop} {H : Hp} {vs : List V} {y z : Val} (h : RtL B A N H vs [y, z]) : ∃ v w, vs = [v, w] ∧ RtV B A N H v y ∧ RtV B A N H w z := by
  cases h with
  | cons h t =>
    obtain ⟨w, rfl, r⟩ := rtl1 t
    exact ⟨_, _, rfl, h, r⟩
theorem di_range1 {cmp : Bool} (hm : X.mg "range" = none) (ha : DA X B E [a] g) (hg : Gl X "range" := by rfl) (hs : starEach [a] X.env = [(false, eval a X.env)] := by rfl) : DI X B E cmp tg (.Call (.Name "range" p) [a] [] pos) (iRg1 g) := by
  refine pi_imp (pi_range1 hg hm ha hs) fun σ H R' ⟨G, own, ρ, s, R, q⟩ => ?_
  refine tAs.run R _ q.bnd fun ys s1 vs H1 q1 k1 r1 R1 => ?_
  split at q1
  · rename_i j
    obtain ⟨v, rfl, r⟩ := rtl1 r1
    split at q1
    · rename_i hj
      unfold small62 at hj
      rw [decide_eq_true_eq] at hj
      refine ⟨j, by rw [rt_int r], hj.1, hj.2, q1 _ H1 k1 (it_rng R1)⟩
    · exact q1.elim
  · exact q1.elim
theorem di_range2 {cmp : Bool} (hm : X.mg "range" = none) (ha : DA X B E [a, b] g) (hg : Gl X "range" := by rfl) (hs : starEach [a, b] X.env = [(false, eval a X.env), (false, eval b X.env)] := by rfl) (hs2 : starEach [b] X.env = [(false, eval b X.env)] := by rfl) :
    DI X B E cmp tg (.Call (.Name "range" p) [a, b] [] pos) (iRg2 g) := by
  refine pi_imp (pi_range2 hg hm ha hs hs2) fun σ H R' ⟨G, own, ρ, s, R, q⟩ => ?_
  refine tAs.run R _ q.bnd fun ys s1 vs H1 q1 k1 r1 R1 => ?_
  split at q1
  · rename_i i j
    obtain ⟨v, w, rfl, r, r'⟩ := rtl2 r1
    split at q1
    · rename_i hj
      unfold small62 at hj
      rw [Bool.and_eq_true, decide_eq_true_eq, decide_eq_true_eq] at hj
      refine ⟨i, j, by rw [rt_int r, rt_int r'], ⟨hj.1.1, hj.1.2, hj.2.1, hj.2.2⟩, q1 _ H1 k1 (it_rng R1)⟩
    · exact q1.elim
  · exact q1.elim
/-- zip(xs, ys): both lists, or both tuples -/
def zipD (a b : List D) : List D := (a.zip b).map fun p => .tuple [p.1, p.2]
def iZip (g : Exs S) : Lx S := fun ρ s => (g ρ s).bind fun ys s1 => match ys with
  | [.d (.list a), .d (.list b)] => .ok (zipD a b) s1
  | [.d (.tuple a), .d (.tuple b)] => .ok (zipD a b) s1
  | _ => .bad
theorem zip_at {ds es : List D} {i : Nat} {d : D} (e : (zipD ds es)[i]? = some d) : ∃ x y, ds[i]? = some x ∧ es[i]? = some y ∧ d = .tuple [x, y] := by
  unfold zipD at e
  rw [List.getElem?_map] at e
  obtain ⟨p, e1, e2⟩ := Option.map_eq_some_iff.mp e
  obtain ⟨h1, h2⟩ := List.getElem?_zip_eq_some.mp e1
  exact ⟨_, _, h1, h2, e2.symm⟩
theorem zip_len {ds es : List D} {n m : Nat} (h : n = ds.length) (h' : m = es.length) : n ≤ (zipD ds es).length ∨ m ≤ (zipD ds es).length := by
  unfold zipD
  rw [List.length_map, List.length_zip]
  omega
theorem it_zip {G : Gh} {own : Own} {ρ : Env} {s : S} {σ : Sg} {H1 : Hp} (R : Rel B G own ρ s σ H1) {cmp : Bool} {K : PySem.W.Frag} {a b : Addr} {xs ys : List V} {ds es : List D} (h : H1 a = some (.lst xs)) (n : ¬ Chg G own cmp a) (r : RpL B (Av G own) H1 xs ds)
    (h' : H1 b = some (.lst ys)) (n' : ¬ Chg G own cmp b) (r' : RpL B (Av G own) H1 ys es) : ItOk B (Av G own) (Chg G own cmp) (Itz K a b) (zipD ds es) H1 := by
  intro H2 k
  have h2 := SqL.of (K := K) (k a _ h n)
  have h2' := SqL.of (K := K) (k b _ h' n')
  refine ⟨fun i d e => ?_, xs, ys, h2, h2', zip_len r.len r'.len⟩
  obtain ⟨x, y, e1, e2, rfl⟩ := zip_at e
  obtain ⟨u, eu, ru⟩ := r.get' e1
  obtain ⟨w, ew, rw'⟩ := r'.get' e2
  refine ⟨⟨xs, ys, u, w, h2, h2', eu, ew⟩, ?_⟩
  rintro z H3 ⟨T, u', w', rfl, hT, rfl, q1, q2⟩
  have z1 := q1 xs h2
  have z2 := q2 ys h2'
  rw [eu] at z1; rw [ew] at z2; cases z1; cases z2
  exact ⟨same_upd hT, fun A' hA => .tup (Tp.of upd_same) (.cons (ItOk.item R k (same_upd hT) ru A' hA) (.cons (ItOk.item R k (same_upd hT) rw' A' hA) .nil))⟩
theorem it_zipT {G : Gh} {own : Own} {ρ : Env} {s : S} {σ : Sg} {H1 : Hp} (R : Rel B G own ρ s σ H1) {cmp : Bool} {K : PySem.W.Frag} {a b : Addr} {xs ys : List V} {ds es : List D} (h : Tp K H1 a xs) (r : RpL B (Av G own) H1 xs ds)
    (h' : Tp K H1 b ys) (r' : RpL B (Av G own) H1 ys es) : ItOk B (Av G own) (Chg G own cmp) (RZ.ItzT K a b) (zipD ds es) H1 := by
  intro H2 k
  have h2 := (tp_kept R k h).sq
  have h2' := (tp_kept R k h').sq
  refine ⟨fun i d e => ?_, xs, ys, h2, h2', zip_len r.len r'.len⟩
  obtain ⟨x, y, e1, e2, rfl⟩ := zip_at e
  obtain ⟨u, eu, ru⟩ := r.get' e1
  obtain ⟨w, ew, rw'⟩ := r'.get' e2
  refine ⟨⟨xs, ys, u, w, h2, h2', eu, ew⟩, ?_⟩
  rintro z H3 ⟨T, u', w', rfl, hT, rfl, q1, q2⟩
  have z1 := q1 xs h2
  have z2 := q2 ys h2'
  rw [eu] at z1; rw [ew] at z2; cases z1; cases z2
  exact ⟨same_upd hT, fun A' hA => .tup (Tp.of upd_same) (.cons (ItOk.item R k (same_upd hT) ru A' hA) (.cons (ItOk.item R k (same_upd hT) rw' A' hA) .nil))⟩
theorem di_zip (hB : B.K = X.K) {elts : List Expr} {kk : Nat} {tpos : Pos} (hm : X.mg "zip" = none) (ha : DA X B E [a, b] g) (hg : Gl X "zip" := by rfl)
    (hs : starEach [a, b] X.env = (false, eval a X.env) :: starEach [b] X.env := by rfl) (hpl : (backTo pos (starEach [b] X.env)).any (·.1) = false := by rfl) : DI X B E true (.Tuple elts kk tpos) (.Call (.Name "zip" p) [a, b] [] pos) (iZip g) := by
  refine pi_imp (RZ.pi_zipA hg hm ha hs hpl) fun σ H R' ⟨G, own, ρ, s, R, q⟩ => ?_
  refine tAs.run R _ q.bnd fun ys s1 vs H1 q1 k1 r1 R1 => ?_
  have nc : ∀ a, ¬ G.A0 a → ¬ Chg G own true a := fun a n z => z.elim (fun z => n (R.wf1 a z)) fun z => by cases z.1
  have ls : ∀ {v : V} {ds : List D}, RtV B (Av G own) G.A0 H1 v (.d (.list ds)) → ∃ a xs, v = .ref a ∧ H1 a = some (.lst xs) ∧ ¬ Chg G own true a ∧ RpL B (Av G own) H1 xs ds := fun {v ds} h => by
    cases h with
    | lst h n r => exact ⟨_, _, rfl, h, nc _ n, r⟩
    | of r =>
      cases r with
      | lst h n r => exact ⟨_, _, rfl, h, fun z => n (Chg.av R1 z), r⟩
  split at q1
  · obtain ⟨v, w, rfl, r, r'⟩ := rtl2 r1
    obtain ⟨u, xs, rfl, h, n, rx⟩ := ls r
    obtain ⟨u', xs', rfl, h', n', rx'⟩ := ls r'
    exact ⟨u, u', xs, xs', rfl, .inl ⟨SqL.of h, SqL.of h', q1 _ H1 k1 (it_zip R1 h n rx h' n' rx')⟩⟩
  · obtain ⟨v, w, rfl, r, r'⟩ := rtl2 r1
    obtain ⟨u, xs, rfl, h, rx⟩ := rt_tup r
    obtain ⟨u', xs', rfl, h', rx'⟩ := rt_tup r'
    exact ⟨u, u', xs, xs', rfl, .inr ⟨by rw [← hB]; exact h.sq, by rw [← hB]; exact h'.sq, q1 _ H1 k1 (by rw [← hB]; exact it_zipT R1 h rx h' rx')⟩⟩
  · exact q1.elim
end
def forL (bt : Bt) (g : Sx S) : List D → Sx S
  | [], ρ, s => .ok (.nx ρ) s
  | d :: ds, ρ, s => match bt d ρ with
    | none => .bad
    | some ρ1 => (g ρ1 s).bind fun fl s1 => match fl with
      | .nx ρ2 => forL bt g ds ρ2 s1
      | .ct ρ2 => forL bt g ds ρ2 s1
      | .bk ρ2 => .ok (.nx ρ2) s1
      | .rt y => .ok (.rt y) s1
      | .rg y ρ2 => .ok (.rg y ρ2) s1
def sFor (it : Lx S) (bt : Bt) (g : Sx S) : Sx S := fun ρ s => (it ρ s).bind fun ds s1 => forL bt g ds ρ s1
section
variable {X : Cx} {B : Bs} {E : XK} {tg iter c : Expr} {body : List Stmt} {it : Lx S} {bt : Bt} {g : Sx S} {vs : List Nat} {pos : Pos}
/-- fresh in the course of a statement: Av grows by what was not there -/
theorem Gone.av {G : Gh} {own own' : Own} {H H' : Hp} (x : Gone G own own' H H') {a : Addr} (h : Av G own' a) : Av G own a ∨ H a = none := by
  rcases h with h | ⟨i, h⟩
  · exact .inl (.inl h)
  · exact (x.news i a h).elim (fun ⟨j, z⟩ => .inl (.inr ⟨j, z⟩)) .inr
theorem Gone.same {G : Gh} {own : Own} {H H' : Hp} (k : Same H H') : Gone G own own H H' := ⟨fun a o h _ _ => k a o h, fun i a h => .inl ⟨i, h⟩⟩
theorem ds_for (hc : Ctx X B) (hp : PassesOwn (model X.prog X.w) X.A X.env X.xe) (hi : DI X B E false tg iter it) (hg : DG S X B tg bt vs) (hb : DSs X B E body g) (hs : ∀ x, foldedSetIterable iter X.env x = pure x := by intro _; rfl) :
    DS X B E (.For tg iter body [] pos) (sFor it bt g) := by
  refine ps_imp (ps_for hp hc.calm hi hg hb hs) fun Dd σ H ⟨G, own, ρ, s, R, q⟩ => ?_
  refine ⟨G, own, ρ, s, R, q.bnd.mono fun ds s1 q1 J H1 k1 ok => ?_⟩
  have R1 := R.stp k1
  refine ⟨fun i m σ2 H2 => m = ds.length - i ∧ i ≤ ds.length ∧ ∃ own2 ρ2 s2, Rel B G own2 ρ2 s2 σ2 H2 ∧ Gone G own own2 H1 H2 ∧ (forL bt g (ds.drop i) ρ2 s2).sat (Post B G own H Dd) fun e s' => ExW B G E e s',
    ⟨ds.length, by simp, Nat.zero_le _, own, ρ, s1, R1, .refl, by simpa using q1⟩, ?_⟩
  rintro i m σ2 H2 ⟨rfl, hi, own2, ρ2, s2, R2, g2, q2⟩
  have kept : ∀ a o, H1 a = some o → ¬ Chg G own false a → H2 a = some o := fun a o h n => g2.keep a o h (fun z => n (.inl z)) fun j z => n (.inr ⟨rfl, j, z⟩)
  obtain ⟨go, stop⟩ := ok H2 kept
  by_cases hlt : i < ds.length
  · have hd : ds[i]? = some ds[i] := by simp [hlt]
    obtain ⟨g1, gy⟩ := go i _ hd
    rw [List.drop_eq_getElem_cons hlt] at q2
    refine .inr ⟨g1, fun σ' H' => ∃ own3 ρ3 s3, Rel B G own3 ρ3 s3 σ' H' ∧ Gone G own own3 H1 H' ∧ (forL bt g (ds.drop (i + 1)) ρ3 s3).sat (Post B G own H Dd) fun e s' => ExW B G E e s', fun σ' H' ⟨own3, ρ3, s3, R3, g3, q3⟩ => ⟨ds.length - (i + 1), by omega, rfl, hlt, own3, ρ3, s3, R3, g3, q3⟩, fun x H3 hy => ?_⟩
    obtain ⟨sm, rp⟩ := gy x H3 hy
    have R3 := R2.stp (R2.same sm)
    have g3 : Gone G own own2 H1 H3 := g2.trans R2 (.same sm)
    have q3 : (forL bt g (ds[i] :: ds.drop (i + 1)) ρ2 s2).sat (Post B G own H Dd) fun e s' => ExW B G E e s' := q2
    unfold forL at q3
    cases hz : bt ds[i] ρ2 with
    | none => simp only [hz] at q3; exact q3.elim
    | some ρ' =>
      simp only [hz] at q3
      refine ⟨G, own2, ρ2, s2, _, ρ', R3, rp _ fun a z => g2.av z, hz, fun σ4 R4 _ => ?_⟩
      refine ⟨G, own2, ρ', s2, R4, q3.bnd.mono fun fl s5 q5 => ?_⟩
      cases fl with
      | nx ρ5 => exact fun own5 σ5 H5 R5 g5 => ⟨own5, ρ5, s5, R5, g3.trans R3 g5, q5⟩
      | ct ρ5 => exact fun own5 σ5 H5 R5 g5 => ⟨own5, ρ5, s5, R5, g3.trans R3 g5, q5⟩
      | bk ρ5 => exact fun own5 σ5 H5 R5 g5 => q5 own5 σ5 H5 R5 ((Gone.of_stp k1).trans R1 (g3.trans R3 g5))
      | rt y => exact q5
      | rg y ρ5 => exact fun v own5 σ5 H5 R5 g5 => q5 v own5 σ5 H5 R5 ((Gone.of_stp k1).trans R1 (g3.trans R3 g5))
  · have e : i = ds.length := by omega
    subst e
    rw [List.drop_length] at q2
    exact .inl ⟨stop, q2 own2 σ2 H2 R2 ((Gone.of_stp k1).trans R1 g2)⟩
def whL (c : Tx S) (g : Sx S) : Nat → Sx S
  | 0, _, _ => .bad
  | n + 1, ρ, s => (c ρ s).bind fun b s1 => if b then (g ρ s1).bind fun fl s2 => match fl with
      | .nx ρ2 => whL c g n ρ2 s2
      | .ct ρ2 => whL c g n ρ2 s2
      | .bk ρ2 => .ok (.nx ρ2) s2
      | .rt y => .ok (.rt y) s2
      | .rg y ρ2 => .ok (.rg y ρ2) s2
    else .ok (.nx ρ) s1
/-- turns enough -/
@[irreducible] def FU : Nat := 1000000000
def sWh (n : Nat) (c : Tx S) (g : Sx S) : Sx S := fun ρ s => whL c g n ρ s
theorem ds_while (n : Nat) {fc : Tx S} (hp : PassesOwn (model X.prog X.w) X.A X.env X.xe) (hc : DT X B E c fc) (hb : DSs X B E body g) : DS X B E (.While c body [] pos) (sWh n fc g) := by
  refine ps_imp (ps_while hp hc hb) fun Dd σ H ⟨G, own, ρ, s, R, q⟩ => ?_
  refine ⟨fun m σ2 H2 => ∃ own2 ρ2 s2, Rel B G own2 ρ2 s2 σ2 H2 ∧ Gone G own own2 H H2 ∧ (whL fc g m ρ2 s2).sat (Post B G own H Dd) fun e s' => ExW B G E e s', ⟨n, own, ρ, s, R, .refl, q⟩, ?_⟩
  rintro m σ2 H2 ⟨own2, ρ2, s2, R2, g2, q2⟩
  cases m with
  | zero => exact q2.elim
  | succ m =>
    unfold whL at q2
    refine tT.run R2 _ q2.bnd fun b s3 H3 q3 k3 R3 => ?_
    have g3 : Gone G own own2 H H3 := g2.trans R2 (.of_stp k3)
    cases b with
    | true =>
      refine ⟨fun σ' H' => ∃ own3 ρ3 s3, Rel B G own3 ρ3 s3 σ' H' ∧ Gone G own own3 H H' ∧ (whL fc g m ρ3 s3).sat (Post B G own H Dd) fun e s' => ExW B G E e s', fun σ' H' h => ⟨m, by omega, h⟩, ?_⟩
      simp only [if_true] at q3
      refine ⟨G, own2, ρ2, s3, R3, q3.bnd.mono fun fl s5 q5 => ?_⟩
      cases fl with
      | nx ρ5 => exact fun own5 σ5 H5 R5 g5 => ⟨own5, ρ5, s5, R5, g3.trans R3 g5, q5⟩
      | ct ρ5 => exact fun own5 σ5 H5 R5 g5 => ⟨own5, ρ5, s5, R5, g3.trans R3 g5, q5⟩
      | bk ρ5 => exact fun own5 σ5 H5 R5 g5 => q5 own5 σ5 H5 R5 (g3.trans R3 g5)
      | rt y => exact q5
      | rg y ρ5 => exact fun v own5 σ5 H5 R5 g5 => q5 v own5 σ5 H5 R5 (g3.trans R3 g5)
    | false =>
      simp only [Bool.false_eq_true, if_false] at q3
      exact q3 own2 σ2 H3 R3 g3
end
theorem wipe_at (σ : Sg) (j : Nat) : ∀ vs : List Nat, (wipe σ vs)[j]? = if j ∈ vs then σ[j]?.map (fun _ => none) else σ[j]?
  | [] => by simp [wipe]
  | v :: vs => by
    unfold wipe
    by_cases h : v = j
    · subst h
      rw [List.getElem?_set]
      simp only [List.mem_cons, true_or, if_true]
      rw [wipe_length]
      by_cases hl : v < σ.length
      · simp [hl]
      · simp [hl]
    · rw [List.getElem?_set_ne h, wipe_at σ j vs]
      have : (j ∈ v :: vs) ↔ j ∈ vs := by simp [Ne.symm h, fun e => h (Eq.symm e)]
      simp only [this]
theorem wipe_idem (σ : Sg) (vs : List Nat) : wipe (wipe σ vs) vs = wipe σ vs := by
  apply List.ext_getElem?
  intro j
  rw [wipe_at, wipe_at]
  split
  · simp [Option.map_map, Function.comp_def]
  · rfl
def noex {α : Type} (o : Out S α) : Out S α := match o with
  | .ok a s => .ok a s
  | _ => .bad
theorem noex_sat {α : Type} {o : Out S α} {P : α → S → Prop} {T T' : Exn → S → Prop} (h : (noex o).sat P T) : o.sat P T' := by
  cases o with
  | bad => exact h
  | ex _ _ => exact h.elim
  | ok _ _ => exact h
def lcL (bt : Bt) (c : Tx S) (f : Ex S) (ρ : Env) : List D → S → Out S (List D)
  | [], s => .ok [] s
  | d :: ds, s => match bt d ρ with
    | none => .bad
    | some ρ1 => (noex (c ρ1 s)).bind fun b s1 => if b then (noex (f ρ1 s1)).bind fun y s2 => (match y with
        | .d z => (lcL bt c f ρ ds s2).bind fun r s3 => .ok (z :: r) s3
        | _ => .bad)
      else lcL bt c f ρ ds s1
def lLc (it : Lx S) (bt : Bt) (c : Tx S) (f : Ex S) (vs : List Nat) : Lx S := fun ρ s => (it ρ s).bind fun ds s1 => if ds.length ≤ sizeLine then lcL bt c f (wipeE vs ρ) ds s1 else .bad
def xYes : Tx S := fun _ s => .ok true s
abbrev DTs (X : Cx) (B : Bs) (E : XK) (es : List Expr) (f : Tx S) : Prop := PTs X es (tT B E f)
theorem dts_nil {X : Cx} {B : Bs} {E : XK} : DTs X B E [] (xYes : Tx S) := ⟨fun pins s σ H Q I q => pts_nil.run pins s σ H Q I (let ⟨G, own, ρ, s, R, q⟩ := q; q H R.refl)⟩
theorem dts_one {X : Cx} {B : Bs} {E : XK} {c : Expr} {f : Tx S} (h : DT X B E c f) : DTs X B E [c] f := pts_one h
abbrev E00 : XK := fun _ _ _ => False
section
variable {X : Cx} {B : Bs} {E : XK} {tg iter elt : Expr} {ifs : List Expr} {it : Lx S} {bt : Bt} {f : Ex S} {fc : Tx S} {own : List (Str × Nat)} {scope : Scope} {pos : Pos}
theorem tLc_of {σ : Sg} {H : Hp} {Q : VK} (h : tF B E (lLc it bt fc f (own.map (·.2))) σ H Q) : tLc (tI B E true it) (tG S B bt (own.map (·.2))) (tT B E00 fc) (tD B E00 f) (own.map (·.2)) σ H Q := by
  obtain ⟨G, ow, ρ, s, R, q⟩ := h
  refine ⟨G, ow, ρ, s, R, q.bnd.mono fun ds s1 q1 J H1 k1 ok => ?_⟩
  intro p hp
  have R1 := R.stp k1
  generalize hvs : own.map (·.2) = vs at q1 ⊢
  split at q1
  · rename_i hsz
    let G' : Gh := { H0 := fun _ => none, A0 := fun a => G.A0 a ∨ a = p, dks := G.dks }
    have npo : ∀ i, ow i ≠ some p := fun i z => by
      obtain ⟨o, e, _⟩ := R1.ont i p z
      rw [hp] at e; cases e
    have npd : p ∉ G.dks := fun z => by
      obtain ⟨o, e, _⟩ := R1.dkT z
      rw [hp] at e; cases e
    have av' : ∀ a, Av G' ow a ↔ Av G ow a ∨ a = p := fun a => ⟨fun z => z.elim (fun z => z.elim (fun z => .inl (.inl z)) .inr) fun z => .inl (.inr z), fun z => z.elim (fun z => z.elim (fun z => .inl (.inl z)) .inr) fun z => .inl (.inr z)⟩
    have RG : ∀ {s2 : S} {H2 : Hp}, (∀ a o, H1 a = some o → a ∉ G.dks → H2 a = some o) → H2 p ≠ none → SI.dks s2 = G.dks → SI.rep s2 H2 → Rel B G' ow (wipeE vs ρ) s2 (wipe σ vs) H2 := fun {s2 H2} k hpn hd hr => by
      have Rw := R1.wiped vs
      have stp : Stp G s2 H1 H2 := ⟨k, hd, hr⟩
      have Rz := Rw.stp stp
      have kp := Rw.kp stp
      refine ⟨fun a z => .inl (R.wf1 a z), fun a z => z.elim (Rz.wf2 a) (fun e => by rw [e]; exact hpn), (fun a o z => by cases z), hd, hr, R.inj, fun i a z => ⟨rfl, fun y => y.elim (R.fre i a z).2 fun e => npo i (by rw [← e]; exact z)⟩, Rz.ont, Rz.len, fun i x e => ?_⟩
      have qs := Rw.sl i x e
      have wkv : ∀ {v : V} {y : Val}, RvV B (Av G ow) H1 v y → RvV B (Av G' ow) H2 v y := fun {v y} h => ((h.grow hp).mono fun a z => (av' a).mp z).kp ⟨fun a xs h => kp.tup a xs h, fun a o h n => kp.all a o h fun z => n ((av' a).mpr (.inl z))⟩
      have wko : ∀ {a : Addr} {x : Sl}, (∀ o, H1 a = some o → H2 a = some o) → OwnAt B (Av G ow) H1 a x → OwnAt B (Av G' ow) H2 a x := fun {a x} ha h => ((h.grow hp).mono fun a z => (av' a).mp z).kp ⟨fun a xs h => kp.tup a xs h, fun a o h n => kp.all a o h fun z => n ((av' a).mpr (.inl z))⟩ ha
      have nd : ∀ a, ow i = some a → a ∉ G.dks := fun a ho z => (R.fre i a ho).2 (R.wf1 a z)
      cases x with
      | no => trivial
      | v y => obtain ⟨u, e, r⟩ := qs; exact ⟨u, e, wkv r⟩
      | l ds => obtain ⟨a, ho, hs, r⟩ := qs; exact ⟨a, ho, hs, wko (fun o h => k a o h (nd a ho)) r⟩
      | m ds => obtain ⟨a, ho, hs, r⟩ := qs; exact ⟨a, ho, hs, wko (fun o h => k a o h (nd a ho)) r⟩
      | g c a fs =>
        obtain ⟨gs, ho, hs, hg, r⟩ := qs
        refine ⟨gs, ho, hs, hg, ((r.grow hp).mono fun a z => (av' a).mp z).kp ⟨fun a xs h => kp.tup a xs h, fun a o h n => kp.all a o h fun z => n ((av' a).mpr (.inl z))⟩ fun l hl o e => k l o e fun z => ?_⟩
        obtain ⟨j, e'⟩ := gm_own ho hg l hl
        exact (R.fre j l e').2 (R.wf1 l z)
      | q _ _ => obtain ⟨a, ho, hs, r⟩ := qs; exact ⟨a, ho, hs, wko (fun o h => k a o h (nd a ho)) r⟩
    let Pend : List D → S → Prop := fun ds s' => ∀ p H' xs, Stp G s' H H' → H p = none → H' p = some (.lst xs) → RpL B (fun a => Av G ow a ∨ a = p) H' xs ds → Q (.ref p) H'
    have hp0 : H p = none := Stp.none R1 k1 hp
    refine ⟨fun i m H2 => m = ds.length - i ∧ i ≤ ds.length ∧ ∃ s2 acc da, H2 p = some (.lst acc) ∧ acc.length ≤ i ∧ RpL B (Av G' ow) H2 acc da ∧ (∀ a o, H1 a = some o → a ∉ G.dks → H2 a = some o) ∧ SI.dks s2 = G.dks ∧ SI.rep s2 H2 ∧
      (lcL bt fc f (wipeE vs ρ) (ds.drop i) s2).sat (fun r s' => Pend (da ++ r) s') fun e s' => ExW B G E e s', ⟨ds.length, by simp, Nat.zero_le _, s1, [], [], upd_same, Nat.le_refl _, .nil, fun a o h n => by rw [upd_ne (ne_of_none h hp)]; exact h, R1.dk, (R1.put hp).rs, by simpa using q1⟩, ?_⟩
    rintro i m H2 ⟨rfl, hi, s2, acc, da, hacc, hal, racc, keep, hd2, hr2, q2⟩
    have R2 := RG keep (by rw [hacc]; simp) hd2 hr2
    obtain ⟨go, stop⟩ := ok H2 fun a o h n => keep a o h fun z => n (.inl z)
    by_cases hlt : i < ds.length
    · obtain ⟨g1, gy⟩ := go i ds[i] (by simp [hlt])
      rw [List.drop_eq_getElem_cons hlt] at q2
      refine .inr ⟨g1, fun H' => ∃ s2 acc da, H' p = some (.lst acc) ∧ acc.length ≤ i + 1 ∧ RpL B (Av G' ow) H' acc da ∧ (∀ a o, H1 a = some o → a ∉ G.dks → H' a = some o) ∧ SI.dks s2 = G.dks ∧ SI.rep s2 H' ∧
        (lcL bt fc f (wipeE vs ρ) (ds.drop (i + 1)) s2).sat (fun r s' => Pend (da ++ r) s') fun e s' => ExW B G E e s', fun H' h => ⟨ds.length - (i + 1), by omega, rfl, hlt, h⟩, fun x H3 hy => ?_⟩
      obtain ⟨sm, rp⟩ := gy x H3 hy
      have R3 := R2.stp (R2.same sm)
      unfold lcL at q2
      cases hz : bt ds[i] (wipeE vs ρ) with
      | none => simp only [hz] at q2; exact q2.elim
      | some ρ' =>
        simp only [hz] at q2
        refine ⟨G', ow, _, s2, _, ρ', R3, rp _ fun a z => ((av' a).mp z).elim .inl fun e => .inr (by rw [e]; exact hp), hz, fun σ4 R4 w4 => ⟨w4.trans (wipe_idem σ vs), ?_⟩⟩
        refine tT.run R4 _ (noex_sat q2.bnd) fun b s5 H5 q5 k5 R5 => ?_
        have keep5 : ∀ a o, H1 a = some o → a ∉ G.dks → H5 a = some o := fun a o h n => k5.fr a o (sm a _ (keep a o h n)) n
        have hacc5 : H5 p = some (.lst acc) := k5.fr p _ (sm p _ hacc) npd
        have kp5 : Kp (Av G' ow) H2 H5 := ⟨fun a u ht h => (R4.kp k5).tup a u ht (sm a _ h), fun a o h n => (R4.kp k5).all a o (sm a o h) n⟩
        have racc5 := RpL.kp kp5 racc
        cases b with
        | false =>
          simp only [Bool.false_eq_true, if_false] at q5 ⊢
          exact ⟨s5, acc, da, hacc5, by omega, racc5, keep5, k5.dk, k5.rs, q5⟩
        | true =>
          simp only [if_true] at q5 ⊢
          refine tD.run R5 _ (noex_sat q5.bnd) fun y s6 v H6 q6 k6 r6 R6 => ?_
          have keep6 : ∀ a o, H1 a = some o → a ∉ G.dks → H6 a = some o := fun a o h n => k6.fr a o (keep5 a o h n) n
          have hacc6 : H6 p = some (.lst acc) := k6.fr p _ hacc5 npd
          have racc6 := RpL.kp (R5.kp k6) racc5
          cases y with
          | r _ => exact q6.elim
          | o _ _ => exact q6.elim
          | p _ => exact q6.elim
          | f _ => exact q6.elim
          | d z =>
            refine ⟨acc, hacc6, by omega, s6, acc ++ [v], da ++ [z], upd_same, by simp; omega, ?_, fun a o h n => ?_, k6.dk, ?_, ?_⟩
            · have kp : Kp (Av G' ow) H6 (upd H6 p (.lst (acc ++ [v]))) := by
                refine ⟨fun b ys ht h => ?_, fun b u h n => ?_⟩
                · rw [upd_ne]
                  · exact h
                  · rintro rfl; rw [hacc6] at h; cases h; cases ht
                · rw [upd_ne]
                  · exact h
                  · rintro rfl; exact n ((av' _).mpr (.inr rfl))
              exact RpL.kp kp (racc6.app (.cons r6 .nil))
            · rw [upd_ne (ne_of_none h hp)]; exact keep6 a o h n
            · refine SI.keep s6 H6 _ k6.rs (fun a h => ?_) fun b ys ht h => ?_
              · rw [upd_ne]
                rintro rfl
                exact npd (by rw [← k6.dk]; exact h)
              · rw [upd_ne]
                · exact h
                · rintro rfl; rw [hacc6] at h; cases h; cases ht
            · refine q6.bnd.mono fun r s7 q7 => ?_
              rw [List.append_assoc]
              exact q7
    · have e : i = ds.length := by omega
      subst e
      rw [List.drop_length] at q2
      refine .inl ⟨stop, ?_⟩
      have q3 : Pend (da ++ []) s2 := q2
      rw [List.append_nil] at q3
      refine q3 p H2 acc ⟨fun a o h n => ?_, hd2, hr2⟩ hp0 hacc (racc.mono fun a z => (av' a).mpr z)
      exact keep a o (k1.fr a o h n) n
  · exact q1.elim
theorem df_lc (c : Ctx X B) (hi : DI X B E true tg iter it) (ok : BlkOk X.N X.env.scope scope own)
    (hg : ∀ (s : Shared) (H : Hp) (C : Addr) (cl : List (Str × Addr)) (fp : List Addr), DG S (X.blk s H scope (compEnvC scope cl C X.env) fp) B tg bt (own.map (·.2)))
    (ht : ∀ (s : Shared) (H : Hp) (C : Addr) (cl : List (Str × Addr)) (fp : List Addr), DTs (X.blk s H scope (compEnvC scope cl C X.env) fp) B E00 ifs fc)
    (he : ∀ (s : Shared) (H : Hp) (C : Addr) (cl : List (Str × Addr)) (fp : List Addr), DE (X.blk s H scope (compEnvC scope cl C X.env) fp) B E00 elt f)
    (hs : ∀ x, foldedSetIterable iter X.env x = pure x := by intro _; rfl) : DF X B E (.ListComp elt [⟨tg, iter, ifs, 0⟩] scope pos) (lLc it bt fc f (own.map (·.2))) :=
  pe_imp (pe_lc c.calm c.nd hi ok hg ht he hs) fun σ H Q h => tLc_of h
end
end DL
namespace DL
open PySem PySem.Spec PyProof.Rows L2
variable {S : Type} [SI S]
section
variable {B : Bs}
def oLen : List D → Option D
  | [.list ds] => some (.int ds.length)
  | [.tuple ds] => some (.int ds.length)
  | [.str x] => if x.length ≤ sizeLine then some (.int x.length) else none
  | _ => none
theorem cl_len : CallD B (fun xs H Q => ∃ x n, xs = [x] ∧ LenV B.K x H n ∧ Q (.int n) H) oLen := by
  intro A N H vs ds z Q fr hz hv k
  unfold oLen at hz
  split at hz
  · cases hz
    obtain ⟨v, rfl, r⟩ := rtl1 hv
    obtain ⟨a, xs, rfl, h, rl⟩ := rt_lst r
    exact ⟨_, _, rfl, .inl ⟨xs, SqL.of h, rl.len.symm⟩, k _ H (Same.refl H) (.int _)⟩
  · cases hz
    obtain ⟨v, rfl, r⟩ := rtl1 hv
    obtain ⟨a, xs, rfl, h, rl⟩ := rt_tup r
    exact ⟨_, _, rfl, .inr ⟨xs, h.sq, rl.len.symm⟩, k _ H (Same.refl H) (.int _)⟩
  · split at hz
    · rename_i hl
      cases hz
      obtain ⟨v, rfl, r⟩ := rtl1 hv
      exact ⟨_, _, rfl, by rw [rt_str r]; exact ⟨hl, rfl⟩, k _ H (Same.refl H) (.int _)⟩
    · cases hz
  · cases hz
def oAbs : List D → Option D
  | [.int i] => some (.int (if i < 0 then -i else i))
  | _ => none
theorem cl_abs : CallD B (fun xs H Q => ∃ i, xs = [.int i] ∧ Q (.int (if i < 0 then -i else i)) H) oAbs := by
  intro A N H vs ds z Q fr hz hv k
  unfold oAbs at hz
  split at hz
  · cases hz
    obtain ⟨v, rfl, r⟩ := rtl1 hv
    exact ⟨_, by rw [rt_int r], k _ H (Same.refl H) (.int _)⟩
  · cases hz
def oInt : List D → Option D
  | [.int i] => some (.int i)
  | [.bool b] => some (.int (if b then 1 else 0))
  | _ => none
theorem cl_int : CallD B (fun xs H Q => (∃ i, xs = [.int i] ∧ Q (.int i) H) ∨ ∃ k, xs = [.bl k] ∧ Q (.int (if k then 1 else 0)) H) oInt := by
  intro A N H vs ds z Q fr hz hv k
  unfold oInt at hz
  split at hz
  · cases hz
    obtain ⟨v, rfl, r⟩ := rtl1 hv
    exact .inl ⟨_, by rw [rt_int r], k _ H (Same.refl H) (.int _)⟩
  · cases hz
    obtain ⟨v, rfl, r⟩ := rtl1 hv
    exact .inr ⟨_, by rw [rt_bl r], k _ H (Same.refl H) (.int _)⟩
  · cases hz
def oTuple : List D → Option D
  | [.list ds] => some (.tuple ds)
  | [.tuple ds] => some (.tuple ds)
  | _ => none
theorem cl_tuple : CallD B (fun xs H Q => ∃ p ys, xs = [.ref p] ∧ ((SqL B.K H p ys ∧ ∀ l, H l = none → Q (.ref l) (upd H l (.tup ys))) ∨ (SqT B.K H p ys ∧ Q (.ref p) H))) oTuple := by
  intro A N H vs ds z Q fr hz hv k
  unfold oTuple at hz
  split at hz
  · cases hz
    obtain ⟨v, rfl, r⟩ := rtl1 hv
    obtain ⟨a, xs, rfl, h, rl⟩ := rt_lst r
    exact ⟨a, xs, rfl, .inl ⟨SqL.of h, fun l hl => k _ _ (same_upd hl) (new_tup hl rl)⟩⟩
  · cases hz
    obtain ⟨v, rfl, r⟩ := rtl1 hv
    obtain ⟨a, xs, rfl, h, rl⟩ := rt_tup r
    exact ⟨a, xs, rfl, .inr ⟨h.sq, k _ H (Same.refl H) (.tup h rl)⟩⟩
  · cases hz
def oList : List D → Option D
  | [.list ds] => some (.list ds)
  | [.tuple ds] => some (.list ds)
  | _ => none
/-- the intsD of data -/
def intsD : List D → Option (List Int)
  | [] => some []
  | .int i :: r => (intsD r).map (i :: ·)
  | _ :: _ => none
theorem intsD_eq : ∀ {ds : List D} {ns : List Int}, intsD ds = some ns → ds = ns.map .int
  | [], _, h => by cases h; rfl
  | .int i :: r, _, h => by
    simp only [intsD, Option.map_eq_some_iff] at h
    obtain ⟨m, e, rfl⟩ := h
    rw [intsD_eq e]; rfl
  | .none :: _, _, h => by cases h
  | .bool _ :: _, _, h => by cases h
  | .str _ :: _, _, h => by cases h
  | .list _ :: _, _, h => by cases h
  | .tuple _ :: _, _, h => by cases h
  | .dict _ :: _, _, h => by cases h
theorem intsD_map : ∀ ns : List Int, intsD (ns.map .int) = some ns
  | [] => rfl
  | n :: r => by simp [intsD, intsD_map r]
def boolsD : List D → Option (List Bool)
  | [] => some []
  | .bool i :: r => (boolsD r).map (i :: ·)
  | _ :: _ => none
theorem bools_eq : ∀ {ds : List D} {ns : List Bool}, boolsD ds = some ns → ds = ns.map .bool
  | [], _, h => by cases h; rfl
  | .bool i :: r, _, h => by
    simp only [boolsD, Option.map_eq_some_iff] at h
    obtain ⟨m, e, rfl⟩ := h
    rw [bools_eq e]; rfl
  | .none :: _, _, h => by cases h
  | .int _ :: _, _, h => by cases h
  | .str _ :: _, _, h => by cases h
  | .list _ :: _, _, h => by cases h
  | .tuple _ :: _, _, h => by cases h
  | .dict _ :: _, _, h => by cases h
def oSum : List D → Option D
  | [.list ds] => (intsD ds).map fun ns => .int ns.sum
  | _ => none
theorem cl_sum : CallD B (rSum B.K) oSum := by
  intro A N H vs ds z Q fr hz hv k
  unfold oSum at hz
  split at hz
  · obtain ⟨ns, e, rfl⟩ := Option.map_eq_some_iff.mp hz
    obtain ⟨v, rfl, r⟩ := rtl1 hv
    obtain ⟨a, xs, rfl, h, rl⟩ := rt_lst r
    rw [intsD_eq e] at rl
    rw [rl.ints] at h
    exact ⟨a, ns, rfl, SqL.of h, k _ H (Same.refl H) (.int _)⟩
  · cases hz
def maxL : List Int → Int
  | [] => 0
  | [a] => a
  | a :: r => max a (maxL r)
theorem maxL_of : ∀ {ns : List Int} {m : Int}, m ∈ ns → (∀ y, y ∈ ns → y ≤ m) → m = maxL ns
  | [], m, h, _ => by simp at h
  | [a], m, h, _ => by simpa [maxL] using h
  | a :: b :: r, m, h, k => by
    show m = max a (maxL (b :: r))
    have ha := k a (by simp)
    by_cases hm : m ∈ b :: r
    · have e := maxL_of hm (fun y hy => k y (List.mem_cons_of_mem _ hy))
      rw [← e]; omega
    · have e : m = a := by
        rcases List.mem_cons.mp h with z | z
        · exact z
        · exact absurd z hm
      have : maxL (b :: r) ≤ a := by
        have hmem : ∀ l : List Int, l ≠ [] → maxL l ∈ l := by
          intro l
          induction l with
          | nil => intro h; exact absurd rfl h
          | cons x t ih =>
            intro _
            cases t with
            | nil => simp [maxL]
            | cons y t' =>
              show max x (maxL (y :: t')) ∈ x :: y :: t'
              have := ih (by simp)
              by_cases hx : x ≤ maxL (y :: t')
              · rw [Int.max_eq_right hx]; exact List.mem_cons_of_mem _ this
              · rw [Int.max_eq_left (by omega)]; exact List.mem_cons_self
        have := k _ (List.mem_cons_of_mem a (hmem (b :: r) (by simp)))
        omega
      rw [e, Int.max_eq_left this]
def oMax : List D → Option D
  | [.list ds] => (intsD ds).bind fun ns => if ns = [] then none else some (.int (maxL ns))
  | [.int i, .int j] => some (.int (if j > i then j else i))
  | _ => none
theorem cl_max : CallD B (fun xs H Q => rMax B.K xs H Q ∨ (fun xs H Q => ∃ i j, xs = [.int i, .int j] ∧ Q (.int (if j > i then j else i)) H : List V → Hp → VK → Prop) xs H Q) oMax := by
  intro A N H vs ds z Q fr hz hv k
  unfold oMax at hz
  split at hz
  · obtain ⟨ns, e, hz⟩ := Option.bind_eq_some_iff.mp hz
    split at hz
    · cases hz
    · rename_i hne
      cases hz
      obtain ⟨v, rfl, r⟩ := rtl1 hv
      obtain ⟨a, xs, rfl, h, rl⟩ := rt_lst r
      rw [intsD_eq e] at rl
      rw [rl.ints] at h
      exact .inl ⟨a, ns, rfl, SqL.of h, List.length_pos_iff.mpr hne, fun m h1 h2 => by rw [maxL_of h1 h2]; exact k _ H (Same.refl H) (.int _)⟩
  · cases hz
    obtain ⟨v, w, rfl, r, r'⟩ := rtl2 hv
    exact .inr ⟨_, _, by rw [rt_int r, rt_int r'], k _ H (Same.refl H) (.int _)⟩
  · cases hz
def oAll : List D → Option D
  | [.list ds] => (boolsD ds).map fun bs => .bool (bs.all id)
  | _ => none
theorem cl_all : CallD B (rAll B.K) oAll := by
  intro A N H vs ds z Q fr hz hv k
  unfold oAll at hz
  split at hz
  · obtain ⟨ns, e, rfl⟩ := Option.map_eq_some_iff.mp hz
    obtain ⟨v, rfl, r⟩ := rtl1 hv
    obtain ⟨a, xs, rfl, h, rl⟩ := rt_lst r
    rw [bools_eq e] at rl
    rw [rl.bools] at h
    exact ⟨a, ns, rfl, SqL.of h, k _ H (Same.refl H) (.bl _)⟩
  · cases hz
/-- repr of data -/
def oRepr : List D → Option D
  | [d] => if d.canLay0 && d.showable && decide (d.shown.length ≤ sizeLine) && decide (d.depth ≤ 60) then some (.str d.shown) else none
  | _ => none
def rRepr (K : PySem.W.Frag) : List V → Hp → VK → Prop := fun xs H Q => ∃ x d, xs = [x] ∧ Dp K H x d ∧ d.canLay0 = true ∧ d.showable = true ∧ d.shown.length ≤ sizeLine ∧ d.depth ≤ 60 ∧ Q (.str d.shown) H
theorem cl_repr : CallD B (rRepr B.K) oRepr := by
  intro A N H vs ds z Q fr hz hv k
  unfold oRepr at hz
  split at hz
  · split at hz
    · rename_i d h
      cases hz
      simp only [Bool.and_eq_true, decide_eq_true_eq] at h
      obtain ⟨v, rfl, r⟩ := rtl1 hv
      exact ⟨v, d, rfl, rt_dp r h.1.1.1, h.1.1.1, h.1.1.2, h.1.2, h.2, k _ H (Same.refl H) (.str _)⟩
    · cases hz
  · cases hz
theorem call_repr {X : Cx} (hg : X.A.guards = some []) (hu : X.A.units + 64 < cLine) : CallR X (.builtin "repr") (rRepr X.K) := by
  intro pins s σ H xs us Q I rs h
  obtain ⟨x, d, rfl, dp, lay, sh, sz, dep, q⟩ := h
  obtain ⟨u, rfl, r⟩ := vals1 rs
  obtain ⟨as, rd⟩ := Dp.reads I d x u dp r
  cases rd with
  | none => exact PySem.P.repr_of_none ⟨.str _, H, I.tok _, ⟨_, rfl⟩, q⟩
  | bool b => exact PySem.P.repr_of_bool ⟨.str _, H, I.tok _, ⟨_, by simp only [PyData.shown]; cases b <;> rfl⟩, q⟩
  | int i t => exact PySem.P.repr_of_int (by simpa [PyData.showable] using sh) ⟨.str _, H, I.tok _, ⟨s.toks, by simp only [PyData.shown]⟩, q⟩
  | str z t => exact PySem.P.repr_of_str ⟨.str _, H, I.tok _, ⟨s.toks, by simp only [PyData.shown]⟩, q⟩ (by simpa only [PyData.shown] using sz)
  | list h1 h2 h3 h4 =>
    exact PySem.repr_of_reads' (h₀ := s.heap) (.list h1 h2 h3 h4) sh (PyData.noDict_hsm (PyData.hasDict_of_canLay _ lay)) hg (by omega) (fun _ _ e => e) (fun h' u tk hk => ⟨.str _, H, I.kept hk, ⟨_, rfl⟩, q⟩) sz
  | tuple h1 h2 h3 h4 =>
    exact PySem.repr_of_reads' (h₀ := s.heap) (.tuple h1 h2 h3 h4) sh (PyData.noDict_hsm (PyData.hasDict_of_canLay _ lay)) hg (by omega) (fun _ _ e => e) (fun h' u tk hk => ⟨.str _, H, I.kept hk, ⟨_, rfl⟩, q⟩) sz
  | dict h1 h2 h3 h4 h5 => simp [PyData.canLay0] at lay
section
variable {X : Cx} {E : XK} {a b e : Expr} {f fa fb : Ex S} {g : Exs S} {p p2 pos pos2 : Pos}
def lOf (f : Ex S) : Lx S := iSeq f
end
end
end DL
namespace DL
open PySem PySem.Spec PyProof.Rows L2
variable {S : Type} [SI S]
/-- a def's promise, called where no guard stands -/
structure FnG (P : Program) (w : World) (K : PySem.W.Frag) (mg : Str → Option Value) (base : Heap) (CX : CXT) (k : Nat) (f : Addr) (fd : FuncData) (ps : List Str) (sp : Sp) : Prop where
  len : ∀ vs H Q E, sp vs H Q E → vs.length = ps.length
  run : ∀ (A : Around) (outer : List PySem.Env) (s : Shared) (H : Hp) (args : Args) (us : List Value) (vs : List V) (Q : VK) (E : XK),
    Room k A → A.guards = some [] → Env0 P w K mg base A outer s H → BindsTo s fd args (ps.zip us) → Vals vs us → sp vs H Q E →
      codeAny (model P w) A (.call (.ref f) args) (CR CX outer P w H s Q E) s
section
variable {P : Program} {w : World} {K : PySem.W.Frag} {mg : Str → Option Value} {base : Heap} {CX : CXT} {j k : Nat} {f : Addr} {fd : FuncData} {ps : List Str} {sp : Sp}
theorem FnG.mono (F : FnG P w K mg base CX j f fd ps sp) (h : j ≤ k) : FnG P w K mg base CX k f fd ps sp where
  len := F.len
  run := fun A outer s H args us vs Q E hr => F.run A outer s H args us vs Q E (hr.mono h)
/-- the rule of a def by its body -/
theorem fg_of {name qual : Str} {params : Arguments} {body : List Stmt} {scope : Scope} {dV kV doc pm cdv ct oc : Value} {an od : Option Addr} {osl : Array (Option Value)} {N : List Str}
    (lk : K.lookup f = some ⟨oc, od, .func (PySem.W.fnOf name qual params body scope dV kV doc pm an cdv ct), osl⟩) (hcd : PySem.W.codeIn K cdv qual = true) (Sc : FnScope N ps scope)
    (len : ∀ vs H Q E, sp vs H Q E → vs.length = ps.length)
    (hbody : ∀ (A : Around) (outer : List PySem.Env) (s : Shared) (H : Hp) (vs : List V) (Q : VK) (E : XK), Room k (A.deeper (envOfC qual scope s.heap.objs.size f cdv)) → A.guards = some [] → sp vs H Q E →
      ∃ t, PSs (cxOf CX P w K mg base N qual scope f cdv A outer s H E) body t ∧ t { nx := fun _ H' => Q .non H', rt := Q } (L2.start N vs) H) :
    FnG P w K mg base CX (k + 1) f (PySem.W.fnOf name qual params body scope dV kV doc pm an cdv ct) ps sp where
  len := len
  run := fun A outer s H args us vs Q E hr gd e0 hb r hsp => by
    have KX : K.In s.heap := e0.mod.kin.keeps (fun b o e => (e0.bs b o e).1)
    have lim : s.heap.NoLimit := e0.mod.nolimit.keeps (fun b o e => (e0.bs b o e).1)
    have hkind : ∀ y ∈ ps.zip us, scope.names.lookup y.1 = some .local ∨
        (scope.names.lookup y.1 = some .cell ∧ ((cellsFrom (s.heap.objs.size + 1) scope.names []).lookup y.1).isSome = true) := by
      rintro ⟨n, v⟩ hy
      exact (Sc.par n (List.of_mem_zip hy).1).imp id (fun q => ⟨q, PySem.W.cellsFrom_some _ _ _ (.inl q)⟩)
    refine codeAny_call_function hr.depth (KX _ _ lk) rfl Sc.co Sc.gen rfl (PySem.W.codeRec_of KX hcd)
      (hb _ _ _ _ (wpAny_newFunctionEnv_cells Sc.kind hkind (fun env he s1 x => ?_)))
    subst he
    refine ⟨lim.keeps x.toInCall.keep, codeAny_func ?_⟩
    obtain ⟨t, ht, hq⟩ := hbody A outer s H vs Q E (hr.deeper _) gd hsp
    have I := inv_start (CX := CX) (E := E) Sc hr.hd e0 (len _ _ _ _ hsp) r x
    refine wpAny_mono (ht.run [] s1 (L2.start N vs) H _ I hq) (fun fl s' hs => ?_) (fun _ _ hs => hs)
    cases fl with
    | ret u => obtain ⟨v, σ', H', J, rv, q⟩ := hs; exact ⟨v, H', J.os, J.bare, J.base, J.hok, rv, q⟩
    | next => obtain ⟨σ', H', J, q⟩ := hs; exact ⟨V.non, H', J.os, J.bare, J.base, J.hok, rfl, q⟩
    | brk => exact (let ⟨_, _, _, q⟩ := hs; False.elim q)
    | cont => exact (let ⟨_, _, _, q⟩ := hs; False.elim q)
end
/-- what a call's arguments and heap must be -/
structure Call0 (B : Bs) (A0 : Addr → Prop) (s : S) (H : Hp) (vs : List V) (ys : List Val) : Prop where
  dk : ∀ a ∈ SI.dks s, A0 a
  th : ∀ a, A0 a → H a ≠ none
  rs : SI.rep s H
  av : RvL B A0 H vs ys
/-- what a call leaves -/
structure Call1 (s s' : S) (H H' : Hp) : Prop where
  fr : ∀ a o, H a = some o → a ∉ SI.dks s → H' a = some o
  dk : SI.dks s' = SI.dks s
  rs : SI.rep s' H'
/-- the promise of a def that raises nothing: F tells what it gives -/
def spP (B : Bs) (n : Nat) (F : List Val → S → Out S Val) : Sp := fun vs H Q _ => ∃ A0 ys, ∃ s : S, ys.length = n ∧ Call0 B A0 s H vs ys ∧
  (noex (F ys s)).sat (fun y s' => ∀ v H', Call1 s s' H H' → RvV B A0 H' v y → Q v H') fun _ _ => False
theorem Out.sat.both {α : Type} {o : Out S α} {P P' : α → S → Prop} {T' : Exn → S → Prop} (h : o.sat P fun _ _ => False) (k : ∀ y s, P y s → P' y s) : o.sat P' T' := by
  cases o with
  | bad => exact h
  | ex _ _ => exact h.elim
  | ok y s => exact k y s h
/-- a body as a function: n further slots -/
def runF (n : Nat) (body : Sx S) (ys : List Val) (s : S) : Out S Val := (body (ys.map .v ++ List.replicate n .no) s).bind fun fl s' => match fl with
  | .rt y => .ok y s'
  | .nx _ => .ok (.d .none) s'
  | _ => .bad
theorem RvL.len {B : Bs} {A : Addr → Prop} {H : Hp} : ∀ {vs : List V} {ys : List Val}, RvL B A H vs ys → vs.length = ys.length
  | _, _, .nil => rfl
  | _, _, .cons _ t => by simp [RvL.len t]
theorem RvL.get {B : Bs} {A : Addr → Prop} {H : Hp} : ∀ {vs : List V} {ys : List Val} {i : Nat} {y : Val}, RvL B A H vs ys → ys[i]? = some y → ∃ v, vs[i]? = some v ∧ RvV B A H v y
  | _, _, _, _, .nil, h => by simp at h
  | _, _, 0, _, .cons a t, h => by simp at h; subst h; exact ⟨_, rfl, a⟩
  | _, _, i + 1, x, .cons a t, h => by
    obtain ⟨y, e, r⟩ := RvL.get (i := i) (y := x) t (by simpa using h)
    exact ⟨y, by simpa using e, r⟩
theorem rel_start {B : Bs} {A0 : Addr → Prop} {s : S} {H : Hp} {vs : List V} {ys : List Val} {N : List Str} {n : Nat} (c : Call0 B A0 s H vs ys) (hn : N.length = vs.length + n) :
    Rel B ⟨H, A0, SI.dks s⟩ (fun _ => none) (ys.map .v ++ List.replicate n .no) s (L2.start N vs) H := by
  have hl := c.av.len
  refine ⟨c.dk, c.th, fun _ _ h _ => h, rfl, c.rs, fun _ _ _ h => (nomatch h), fun _ _ h => (nomatch h), fun _ _ h => (nomatch h), ?_, fun i x e => ?_⟩
  · unfold L2.start
    simp only [List.length_append, List.length_map, List.length_replicate]
    omega
  · by_cases hi : i < ys.length
    · rw [List.getElem?_append_left (by simpa using hi), List.getElem?_map] at e
      obtain ⟨y, e1, e2⟩ := Option.map_eq_some_iff.mp e
      subst e2
      obtain ⟨v, e3, r⟩ := c.av.get e1
      refine ⟨v, ?_, r.mono fun a z => z.elim id fun ⟨_, z⟩ => nomatch z⟩
      unfold L2.start
      rw [List.getElem?_append_left (by simpa [hl] using hi), List.getElem?_map, e3]
      rfl
    · rw [List.getElem?_append_right (by simpa using hi), List.getElem?_replicate] at e
      split at e
      · cases e; trivial
      · cases e
section
variable {P : Program} {w : World} {K : PySem.W.Frag} {mg : Str → Option Value} {base : Heap} {B : Bs} {k n : Nat} {f : Addr} {fd : FuncData} {ps N : List Str} {x qual : Str} {st : Stmt}
theorem ctx_of (hP : B.P = P) (hK : B.K = K) (hw : B.w = w) (Sc : FnScope N ps (defScope st)) {CX : CXT} {cdv : Value} {A : Around} {outer : List PySem.Env} {s : Shared} {H : Hp} {E : XK} (hr : Room k (A.deeper (envOfC qual (defScope st) s.heap.objs.size f cdv))) (hg : A.guards = some []) :
    Ctx (cxOf CX P w K mg base N qual (defScope st) f cdv A outer s H E) B :=
  ⟨hP, hK, hw, rfl, Sc.nd, by have := hr.un; show (A.deeper (envOfC qual (defScope st) s.heap.objs.size f cdv)).units + 100 < cLine; omega, hg⟩
theorem Ctx.nox {X : Cx} (c : Ctx X B) : Ctx X.nox B := ⟨c.hP, c.hK, c.hw, c.calm, c.nd, c.un, c.gd⟩
abbrev cxP (P : Program) (w : World) (K : PySem.W.Frag) (mg : Str → Option Value) (base : Heap) (N : List Str) (qual : Str) (st : Stmt) (f : Addr) (cdv : Value) (A : Around) (outer : List PySem.Env) (s : Shared) (H : Hp) (E : XK) : Cx :=
  (cxOf CX0 P w K mg base N qual (defScope st) f cdv A outer s H E).nox
/-- THE RULE for a def that raises nothing -/
theorem fg_pure (hP : B.P = P) (hK : B.K = K) (hw : B.w = w) (F : Fun K x qual st f fd) (Sc : FnScope N ps (defScope st)) (body : Sx S) (hn : N.length = ps.length + n)
    (h : ∀ (cdv : Value) (A : Around) (outer : List PySem.Env) (s : Shared) (H : Hp) (E : XK), Ctx (cxP P w K mg base N qual st f cdv A outer s H E) B → Room k (cxP P w K mg base N qual st f cdv A outer s H E).A →
      DSs (cxP P w K mg base N qual st f cdv A outer s H E) B E00 (defBody st) body) : FnG P w K mg base CX0 (k + 1) f fd ps (spP B ps.length (runF n body)) := by
  obtain ⟨oc, od, kV, doc, pm, an, cdv, ct, osl, rfl, lk, hcd⟩ := F.ex
  refine fg_of lk hcd Sc (fun vs H Q E h => ?_) fun A outer s H vs Q E hr hg hsp => ?_
  · obtain ⟨A0, ys, _, hl, c, _⟩ := h
    rw [c.av.len, hl]
  · obtain ⟨A0, ys, s0, hl, c, q⟩ := hsp
    refine ⟨_, (h cdv A outer s H E (ctx_of hP hK hw Sc hr hg).nox hr).nox, ?_⟩
    refine ⟨⟨H, A0, SI.dks s0⟩, _, _, s0, rel_start (n := n) c (by rw [hn, c.av.len, hl]), ?_⟩
    have q2 := noex_sat (T' := fun _ _ => False) q
    unfold runF at q2
    refine Out.sat.both (q2.bnd) fun fl s1 q3 => ?_
    cases fl with
    | nx ρ' => exact fun own' σ' H' R' _ => q3 .non H' ⟨R'.fr, R'.dk, R'.rs⟩ .non
    | bk _ => exact q3.elim
    | ct _ => exact q3.elim
    | rg _ _ => exact q3.elim
    | rt y => exact fun v H' fr r => q3 v H' ⟨fr.fr, fr.dk, fr.rs⟩ r
end
section
variable {X : Cx} {CX : CXT} {k n : Nat} {f C : Addr} {fd : FuncData} {ps : List Str} {sp : Sp} {E E' : XK} {x m : Str} {p pos apos : Pos} {e o : Expr} {es : List Expr} {ta : TE} {t : TA} {B : Bs} {F : List Val → S → Out S Val} {g : Exs S}
theorem run_fg {pins : List (Addr × Obj)} {σ : Sg} {H : Hp} {s : Shared} {Q : VK} {us : List Value} {vs : List V} (Fn : FnG X.prog X.w X.K X.mg X.base CX k f fd ps sp) (hr : Room k X.A) (hg : X.A.guards = some []) (hb : Binds X.K fd ps []) (hx : Passes CX X E)
    (I : L2.Inv X pins σ H s) (r : Vals vs us) (h : sp vs H Q E) : wpAny (model X.prog X.w) X.A (call (.ref f) us) (EP X pins σ Q) X.xe s := by
  have hl : us.length = ps.length := by rw [← r.length]; exact Fn.len _ _ _ _ h
  have hbi := hb s us I.kIn (by rw [List.append_nil]; exact hl)
  rw [List.append_nil] at hbi
  refine wpAny_call (codeAny_mono (Fn.run X.A X.stack s H ⟨us, []⟩ us vs Q E hr hg I.env0 hbi r h) (fun r s' hq => ?_))
  cases r with
  | error e => exact hx pins σ H s e s' I hq
  | ok fl => cases fl with
    | ret u => exact I.after hq
    | next => exact hq.elim
    | brk => exact hq.elim
    | cont => exact hq.elim
theorem pe_callG (Fn : FnG X.prog X.w X.K X.mg X.base CX k f fd ps sp) (hr : Room k X.A) (hgd : X.A.guards = some []) (hg : Gl X x) (hm : X.mg x = some (.ref f)) (hk : PySem.W.keepIn X.K (.ref f) = true) (hb : Binds X.K fd ps []) (hx : Passes CX X E)
    (ha : PA X (e :: es) t) (hdb : (x == ("__debug__" : Str)) = false := by decide) (he : starEach (e :: es) X.env = (false, eval e X.env) :: starEach es X.env := by rfl) (hpl : (backTo pos (starEach es X.env)).any (·.1) = false := by rfl) :
    PE X (.Call (.Name x p) (e :: es) [] pos) (fun σ H Q => t σ H fun vs H1 => sp vs H1 Q E) := by
  constructor
  intro pins s σ H Q I h
  refine wpAny_Call_Name_kw (ld_glob I hg hm ?_ hdb)
  exact PySem.W.callWith_K (h₀ := X.base) I.ok.mod.kin hk (thn (ha.run pos pins s σ H _ I h) (fun us s1 ⟨vs, H1, I1, r, q⟩ => ⟨I1.kIn, run_fg Fn hr hgd hb hx I1 r q⟩)) he hpl
/-- f(e, ..) -/
def eFn (n : Nat) (F : List Val → S → Out S Val) (g : Exs S) : Ex S := fun ρ s => (g ρ s).bind fun ys s1 => if ys.length = n then noex (F ys s1) else .bad
theorem call0_of {G : Gh} {own : Own} {ρ : Env} {s : S} {σ : Sg} {H : Hp} {vs : List V} {ys : List Val} (R : Rel B G own ρ s σ H) (r : RvL B (Av G own) H vs ys) : Call0 B (Av G own) s H vs ys :=
  ⟨fun a h => R.dkA a (by rw [← R.dk]; exact h), fun a h => by obtain ⟨o, e⟩ := R.avT h; rw [e]; simp, R.rs, r⟩
theorem stp_of {G : Gh} {own : Own} {ρ : Env} {s s' : S} {σ : Sg} {H H' : Hp} (R : Rel B G own ρ s σ H) (c : Call1 s s' H H') : Stp G s' H H' := ⟨fun a o h n => c.fr a o h (by rw [R.dk]; exact n), c.dk.trans R.dk, c.rs⟩
theorem de_call (c : Ctx X B) (Fn : FnG X.prog X.w X.K X.mg X.base CX0 k f fd ps (spP B n F)) (hr : Room k X.A) (hm : X.mg x = some (.ref f)) (hk : PySem.W.keepIn X.K (.ref f) = true) (hb : Binds X.K fd ps [])
    (ha : DV X B E (e :: es) g) (hg : Gl X x := by rfl) (hdb : (x == ("__debug__" : Str)) = false := by decide) (he : starEach (e :: es) X.env = (false, eval e X.env) :: starEach es X.env := by rfl) (hpl : (backTo pos (starEach es X.env)).any (·.1) = false := by rfl) :
    DE X B E (.Call (.Name x p) (e :: es) [] pos) (eFn n F g) := by
  refine pe_imp (pe_callG Fn hr c.gd hg hm hk hb pass0 ha hdb he hpl) fun σ H Q ⟨G, own, ρ, s, R, q⟩ => ?_
  refine ⟨G, own, ρ, s, R, q.bnd.mono fun ys s1 q1 vs H1 k1 r1 => ?_⟩
  have R1 := R.stp k1
  split at q1
  · rename_i hl
    refine ⟨Av G own, ys, s1, hl, call0_of R1 r1, ?_⟩
    generalize hz : noex (F ys s1) = z at q1
    cases z with
    | bad => exact q1.elim
    | ok y s2 => exact fun v H' c1 rv => q1 v H' (k1.trans (stp_of R1 c1)) rv
    | ex e s2 =>
      exfalso
      cases hF : F ys s1 <;> rw [hF] at hz <;> cases hz
  · exact q1.elim
end
theorem callerA_gd : callerA.guards = some [] := rfl
end DL
namespace DL
open PySem PySem.Spec PyProof.Rows L2
variable {S : Type} [SI S]
/-- what is new, and no slot's yet -/
def Gh.hide (G : Gh) (ps : List Addr) : Gh := { G with A0 := fun a => G.A0 a ∨ a ∈ ps }
section
variable {B : Bs} {G : Gh} {own : Own} {ρ : Env} {s s' : S} {σ : Sg} {H H' : Hp}
theorem av_hide {ps : List Addr} (a : Addr) : Av (G.hide ps) own a ↔ Av G own a ∨ a ∈ ps :=
  ⟨fun z => z.elim (fun z => z.elim (fun z => .inl (.inl z)) .inr) fun z => .inl (.inr z), fun z => z.elim (fun z => z.elim (fun z => .inl (.inl z)) .inr) fun z => .inl (.inr z)⟩
/-- behind a step that made p: p is hidden -/
theorem Rel.hid (R : Rel B G own ρ s σ H) (k : Stp G s' H H') {p : Addr} (hp : H p = none) (hp' : H' p ≠ none) : Rel B (G.hide [p]) own ρ s' σ H' := by
  have R' := R.stp k
  have kp := R.kp k
  have kp' : Kp (fun a => Av G own a ∨ a = p) H H' := ⟨kp.tup, fun a o h n => kp.all a o h fun z => n (.inl z)⟩
  have av : ∀ a, Av (G.hide [p]) own a → Av G own a ∨ a = p := fun a h => ((av_hide a).mp h).imp id fun z => List.mem_singleton.mp z
  have hown : ∀ j, own j ≠ some p := fun j z => by
    obtain ⟨o, e, _⟩ := R.ont j p z
    rw [hp] at e; cases e
  refine ⟨fun a h => .inl (R.wf1 a h), fun a h => h.elim (R'.wf2 a) fun z => by rw [List.mem_singleton.mp z]; exact hp', R'.fr, R'.dk, R'.rs, R.inj, fun i a h => ⟨(R.fre i a h).1, fun z => z.elim (R.fre i a h).2 fun z => hown i (by rw [← List.mem_singleton.mp z]; exact h)⟩, R'.ont, R'.len, fun i x e => ?_⟩
  have q := R.sl i x e
  have nd : ∀ a, own i = some a → a ∉ G.dks := fun a ho z => (R.fre i a ho).2 (R.wf1 a z)
  cases x with
  | no => trivial
  | v z => obtain ⟨u, e1, r⟩ := q; exact ⟨u, e1, ((r.grow hp).kp kp').mono av⟩
  | l ds => obtain ⟨a, ho, hs, r⟩ := q; exact ⟨a, ho, hs, ((r.grow hp).kp kp' fun o e => k.fr a o e (nd a ho)).mono av⟩
  | m ds => obtain ⟨a, ho, hs, r⟩ := q; exact ⟨a, ho, hs, ((r.grow hp).kp kp' fun o e => k.fr a o e (nd a ho)).mono av⟩
  | g c a fs =>
    obtain ⟨gs, ho, hs, hg, r⟩ := q
    refine ⟨gs, ho, hs, hg, ((r.grow hp).kp kp' fun l hl o e => k.fr l o e fun z => ?_).mono av⟩
    obtain ⟨j, e'⟩ := gm_own ho hg l hl
    exact (R.fre j l e').2 (R.wf1 l z)
  | q _ _ => obtain ⟨a, ho, hs, r⟩ := q; exact ⟨a, ho, hs, ((r.grow hp).kp kp' fun o e => k.fr a o e (nd a ho)).mono av⟩
/-- a hidden one becomes slot i's own -/
theorem Rel.adopt0 {p : Addr} {ps : List Addr} (R : Rel B (G.hide (p :: ps)) own ρ s σ H) (h0 : G.H0 p = none) (hA : ¬ G.A0 p) (hn : p ∉ ps) (hw : ∀ a ∈ G.dks, G.A0 a) {i : Nat} (hil : i < σ.length) {x : Sl} (hx : OwnAt B (Av (G.hide (p :: ps)) own) H p x) :
    Rel B (G.hide ps) (fun j => if j = i then some p else own j) (ρ.set i x) s (σ.set i (some (.ref p))) H := by
  have hdk : (G.hide (p :: ps)).dks = G.dks := rfl
  have hnp : ∀ j, own j ≠ some p := fun j z => (R.fre j p z).2 (.inr List.mem_cons_self)
  have av : ∀ a, Av (G.hide ps) (fun j => if j = i then some p else own j) a → Av (G.hide (p :: ps)) own a := fun a h => by
    rcases h with (h | h) | ⟨j, h⟩
    · exact .inl (.inl h)
    · exact .inl (.inr (List.mem_cons_of_mem _ h))
    · by_cases hj : j = i
      · simp only [hj, if_true] at h; cases h; exact .inl (.inr List.mem_cons_self)
      · simp only [hj, if_false] at h; exact .inr ⟨j, h⟩
  have hot : ∃ o, H p = some o ∧ isTu o = false := by
    cases x with
    | no => exact hx.elim
    | v _ => exact hx.elim
    | g _ _ _ => exact hx.elim
    | q _ _ => obtain ⟨_, _, _, _, e, _⟩ := hx; exact ⟨_, e, rfl⟩
    | l ds => obtain ⟨xs, e, _⟩ := hx; exact ⟨_, e, rfl⟩
    | m ds =>
      rcases hx with ⟨ks, e, _⟩ | ⟨ks, e, _⟩
      · exact ⟨_, e, rfl⟩
      · exact ⟨_, e, rfl⟩
  refine ⟨fun a h => .inl (hw a h), fun a h => ?_, R.fr, R.dk, R.rs, fun a b c h1 h2 => ?_, fun j a h => ?_, fun j a h => ?_, by simp [R.len], fun j z e => ?_⟩
  · exact R.wf2 a (h.imp id fun z => List.mem_cons_of_mem _ z)
  · by_cases ha : a = i
    · by_cases hb : b = i
      · rw [ha, hb]
      · simp only [ha, if_true] at h1; simp only [hb, if_false] at h2; cases h1; exact absurd h2 (hnp b)
    · by_cases hb : b = i
      · simp only [ha, if_false] at h1; simp only [hb, if_true] at h2; cases h2; exact absurd h1 (hnp a)
      · simp only [ha, if_false] at h1; simp only [hb, if_false] at h2; exact R.inj a b c h1 h2
  · by_cases hj : j = i
    · simp only [hj, if_true] at h; cases h; exact ⟨h0, fun z => z.elim hA hn⟩
    · simp only [hj, if_false] at h; exact ⟨(R.fre j a h).1, fun z => (R.fre j a h).2 (z.imp id fun z => List.mem_cons_of_mem _ z)⟩
  · by_cases hj : j = i
    · simp only [hj, if_true] at h; cases h; exact hot
    · simp only [hj, if_false] at h; exact R.ont j a h
  · by_cases hj : j = i
    · subst hj
      obtain ⟨hl, e'⟩ := List.getElem?_eq_some_iff.mp e
      have hl' : j < ρ.length := by simpa using hl
      have : (ρ.set j x)[j]? = some x := by simp [hl']
      rw [this] at e; cases e
      have hs : (σ.set j (some (V.ref p)))[j]? = some (some (V.ref p)) := by simp [← R.len, hl']
      cases x with
      | no => exact hx.elim
      | v _ => exact hx.elim
      | g _ _ _ => exact hx.elim
      | q _ _ => exact ⟨p, by simp, hs, hx.mono av⟩
      | l ds => exact ⟨p, by simp, hs, hx.mono av⟩
      | m ds => exact ⟨p, by simp, hs, hx.mono av⟩
    · rw [List.getElem?_set_ne (Ne.symm hj)] at e
      have q := R.sl j z e
      have e2 : (σ.set i (some (V.ref p)))[j]? = σ[j]? := List.getElem?_set_ne (Ne.symm hj)
      cases z with
      | no => trivial
      | v z => obtain ⟨u, e1, r⟩ := q; exact ⟨u, by rw [e2]; exact e1, r.mono av⟩
      | l ds => obtain ⟨a, ho, hs, r⟩ := q; exact ⟨a, by simp only [hj, if_false]; exact ho, by rw [e2]; exact hs, r.mono av⟩
      | m ds => obtain ⟨a, ho, hs, r⟩ := q; exact ⟨a, by simp only [hj, if_false]; exact ho, by rw [e2]; exact hs, r.mono av⟩
      | g c a fs =>
        obtain ⟨gs, ho, hs, hg, r⟩ := q
        refine ⟨gs, by simp only [hj, if_false]; exact ho, by rw [e2]; exact hs, fun l g hl => ?_, r.mono av⟩
        rw [List.length_set]
        have := gix_ge (n := σ.length) (i := j) (j := l)
        show (if gix σ.length j l = i then some p else own (gix σ.length j l)) = some g
        rw [if_neg (by omega)]
        exact hg l g hl
      | q _ _ => obtain ⟨a, ho, hs, r⟩ := q; exact ⟨a, by simp only [hj, if_false]; exact ho, by rw [e2]; exact hs, r.mono av⟩
theorem Rel.adopt {p : Addr} {ps : List Addr} (R : Rel B (G.hide (p :: ps)) own ρ s σ H) (h0 : G.H0 p = none) (hA : ¬ G.A0 p) (hn : p ∉ ps) (hw : ∀ a ∈ G.dks, G.A0 a) {i : Nat} {x : Sl} (hx : OwnAt B (Av (G.hide (p :: ps)) own) H p x) :
    ∃ own', Rel B (G.hide ps) own' (ρ.set i x) s (σ.set i (some (.ref p))) H ∧ (∀ a, Av (G.hide ps) own' a → Av (G.hide (p :: ps)) own a) ∧ ∀ j a, own' j = some a → own j = some a ∨ a = p := by
  by_cases h : i < σ.length
  · refine ⟨_, R.adopt0 h0 hA hn hw h hx, fun a h => ?_, fun j a h => ?_⟩
    · rcases h with (h | h) | ⟨j, h⟩
      · exact .inl (.inl h)
      · exact .inl (.inr (List.mem_cons_of_mem _ h))
      · by_cases hj : j = i
        · simp only [hj, if_true] at h; cases h; exact .inl (.inr List.mem_cons_self)
        · simp only [hj, if_false] at h; exact .inr ⟨j, h⟩
    · by_cases hj : j = i
      · simp only [hj, if_true] at h; cases h; exact .inr rfl
      · simp only [hj, if_false] at h; exact .inl h
  · have av : ∀ a, Av (G.hide ps) own a → Av (G.hide (p :: ps)) own a := fun a h => by
      rcases h with (h | h) | ⟨j, h⟩
      · exact .inl (.inl h)
      · exact .inl (.inr (List.mem_cons_of_mem _ h))
      · exact .inr ⟨j, h⟩
    refine ⟨own, ?_, av, fun j a h => .inl h⟩
    rw [List.set_eq_of_length_le (by rw [R.len]; omega), List.set_eq_of_length_le (by omega)]
    refine ⟨fun a h => .inl (hw a h), fun a h => R.wf2 a (h.imp id fun z => List.mem_cons_of_mem _ z), R.fr, R.dk, R.rs, R.inj, fun j a h => ⟨(R.fre j a h).1, fun z => (R.fre j a h).2 (z.imp id fun z => List.mem_cons_of_mem _ z)⟩, R.ont, R.len, fun j z e => ?_⟩
    have q := R.sl j z e
    cases z with
    | no => trivial
    | v z => obtain ⟨u, e1, r⟩ := q; exact ⟨u, e1, r.mono av⟩
    | l ds => obtain ⟨a, ho, hs, r⟩ := q; exact ⟨a, ho, hs, r.mono av⟩
    | m ds => obtain ⟨a, ho, hs, r⟩ := q; exact ⟨a, ho, hs, r.mono av⟩
    | g c a fs => obtain ⟨gs, ho, hs, hg, r⟩ := q; exact ⟨gs, ho, hs, hg, r.mono av⟩
    | q _ _ => obtain ⟨a, ho, hs, r⟩ := q; exact ⟨a, ho, hs, r.mono av⟩
end
abbrev Nx (S : Type) := Env → S → Out S Sl
def tN (B : Bs) (E : XK) (f : Nx S) : TE := fun σ H Q => ∃ G own ρ s, Rel B G own ρ s σ H ∧ (f ρ s).sat (fun x s' => ∀ p H', Stp G s' H H' → H p = none → OwnAt B (fun a => Av G own a ∨ a = p) H' p x → Q (.ref p) H') fun e s' => ExW B G E e s'
abbrev DN (X : Cx) (B : Bs) (E : XK) (e : Expr) (f : Nx S) : Prop := PE X e (tN B E f)
def nL (f : Lx S) : Nx S := fun ρ s => (f ρ s).bind fun ds s1 => .ok (.l ds) s1
def nD : Nx S := fun _ s => .ok (.m []) s
section
variable {X : Cx} {B : Bs} {E : XK} {e : Expr} {f : Ex S} {pos : Pos}
theorem DF.dn {f : Lx S} (h : DF X B E e f) : DN X B E e (nL f) := by
  refine pe_imp h fun σ H Q ⟨G, own, ρ, s, R, q⟩ => ?_
  exact ⟨G, own, ρ, s, R, q.bnd.mono fun ds s1 q1 p H1 xs k hp e r => q1 p H1 k hp ⟨xs, e, r⟩⟩
theorem dn_dict : DN X B E (.Dict [] [] pos) (nD : Nx S) := by
  refine pe_imp pe_dnewK fun σ H Q ⟨G, own, ρ, s, R, q⟩ => fun p hp => ?_
  exact q p _ (R.put hp) hp (.inl ⟨[], upd_same, .nil⟩)
/-- name = a new object, one's own -/
def sNewN (i : Nat) (f : Nx S) : Sx S := fun ρ s => (f ρ s).bind fun x s1 => .ok (.nx (ρ.set i x)) s1
theorem ds_newN (c : Ctx X B) (i : Nat) {x : Str} {pos' : Pos} {f : Nx S} (h : DN X B E e f) (hi : X.N[i]? = some x := by rfl) (hx : Loc X.env.scope x := by first | exact .inl rfl | exact .inr rfl) (hs : swapsWith e (some (.Name x pos')) pos.line X.env = pure false := by rfl)
    (hf : X.fn x = true ∨ X.env.scope.names.lookup x = some .local := by first | exact .inl rfl | exact .inr rfl) : DS X B E (.Assign [.Name x pos'] e pos) (sNewN i f) := by
  refine ps_imp (ps_set c.nd hi hx h hs hf) fun Dd σ H ⟨G, own, ρ, s, R, q⟩ => ?_
  refine ⟨G, own, ρ, s, R, q.bnd.mono fun x s1 q1 p H1 k hp r => ?_⟩
  obtain ⟨_, R', g⟩ := R.mine (i := i) (x := x) hp k r
  exact q1 _ _ H1 R' g
/-- [..] handed to a name on one line -/
theorem ds_setLc (c : Ctx X B) (i : Nat) {y : Str} {py spos : Pos} {tg iter elt : Expr} {ifs : List Expr} {it : Lx S} {bt : Bt} {fc : Tx S} {own : List (Str × Nat)} {scope : Scope} (hi : DI X B E true tg iter it) (ok : BlkOk X.N X.env.scope scope own)
    (hg : ∀ (s : Shared) (H : Hp) (C : Addr) (cl : List (Str × Addr)) (fp : List Addr), DG S (X.blk s H scope (compEnvC scope cl C X.env) fp) B tg bt (own.map (·.2)))
    (ht : ∀ (s : Shared) (H : Hp) (C : Addr) (cl : List (Str × Addr)) (fp : List Addr), DTs (X.blk s H scope (compEnvC scope cl C X.env) fp) B E00 ifs fc)
    (he : ∀ (s : Shared) (H : Hp) (C : Addr) (cl : List (Str × Addr)) (fp : List Addr), DE (X.blk s H scope (compEnvC scope cl C X.env) fp) B E00 elt f)
    (hy : X.N[i]? = some y := by rfl) (hyl : X.env.scope.names.lookup y = some .local := by rfl)
    (hsw : swapsWith (.ListComp elt [⟨tg, iter, ifs, 0⟩] scope pos) (some (.Name y py)) spos.line X.env = pure true := by exact sw_true rfl rfl rfl (by decide +kernel)) (hs : ∀ x, foldedSetIterable iter X.env x = pure x := by intro _; rfl) :
    DS X B E (.Assign [.Name y py] (.ListComp elt [⟨tg, iter, ifs, 0⟩] scope pos) spos) (sSet i (eL (lLc it bt fc f (own.map (·.2))))) := by
  refine ps_imp (ps_setLc c.calm c.nd hy hyl hsw hi ok hg ht he hs) fun Dd σ H ⟨G, ow, ρ, s, R, q⟩ => tLc_of ⟨G, ow, ρ, s, R, q.bnd.bnd.mono fun ds s1 q1 p H1 xs k hp e r => ?_⟩
  exact q1 ow _ H1 ((R.stp k).set (y := .d (.list ds)) (.lst e (R.fresh hp) (r.mono fun a z => .inl z))) (.of_stp k)
inductive CmR (B : Bs) (A : Addr → Prop) (H0 H : Hp) : List V → List Sl → List Addr → Prop
  | nil : CmR B A H0 H [] [] []
  | val {v : V} {y : Val} {vs : List V} {cs : List Sl} {ps : List Addr} (h : RvV B A H v y) (t : CmR B A H0 H vs cs ps) : CmR B A H0 H (v :: vs) (.v y :: cs) ps
  | new {p : Addr} {x : Sl} {vs : List V} {cs : List Sl} {ps : List Addr} (h0 : H0 p = none) (h : OwnAt B A H p x) (n : p ∉ ps) (t : CmR B A H0 H vs cs ps) : CmR B A H0 H (.ref p :: vs) (x :: cs) (p :: ps)
abbrev Ms (S : Type) := Env → S → Out S (List Sl)
def tM (B : Bs) (E : XK) (f : Ms S) : TA := fun σ H Q => ∃ G own ρ s, Rel B G own ρ s σ H ∧ (f ρ s).sat (fun cs s' => ∀ vs ps H', Stp G s' H H' → CmR B (Av (G.hide ps) own) H H' vs cs ps → Rel B (G.hide ps) own ρ s' σ H' → Q vs H') fun e s' => ExW B G E e s'
abbrev DM (X : Cx) (B : Bs) (E : XK) (es : List Expr) (f : Ms S) : Prop := PA X es (tM B E f)
def mNil : Ms S := fun _ s => .ok [] s
def mVal (f : Ex S) (g : Ms S) : Ms S := fun ρ s => (f ρ s).bind fun y s1 => (g ρ s1).bind fun cs s2 => .ok (.v y :: cs) s2
def mNew (f : Nx S) (g : Ms S) : Ms S := fun ρ s => (f ρ s).bind fun x s1 => (g ρ s1).bind fun cs s2 => .ok (x :: cs) s2
theorem Rel.hide0 {G : Gh} {own : Own} {ρ : Env} {s : S} {σ : Sg} {H : Hp} (R : Rel B G own ρ s σ H) : Rel B (G.hide []) own ρ s σ H := by
  have av : ∀ a, Av (G.hide []) own a → Av G own a := fun a h => ((av_hide a).mp h).elim id fun z => by cases z
  refine ⟨fun a h => .inl (R.wf1 a h), fun a h => h.elim (R.wf2 a) (fun z => by cases z), R.fr, R.dk, R.rs, R.inj, fun i a h => ⟨(R.fre i a h).1, fun z => z.elim (R.fre i a h).2 fun z => by cases z⟩, R.ont, R.len, fun i x e => ?_⟩
  have q := R.sl i x e
  cases x with
  | no => trivial
  | v z => obtain ⟨u, e1, r⟩ := q; exact ⟨u, e1, r.mono av⟩
  | l ds => obtain ⟨a, ho, hs, r⟩ := q; exact ⟨a, ho, hs, r.mono av⟩
  | m ds => obtain ⟨a, ho, hs, r⟩ := q; exact ⟨a, ho, hs, r.mono av⟩
  | g c a fs => obtain ⟨gs, ho, hs, hg, r⟩ := q; exact ⟨gs, ho, hs, hg, r.mono av⟩
  | q _ _ => obtain ⟨a, ho, hs, r⟩ := q; exact ⟨a, ho, hs, r.mono av⟩
theorem dm_nil : DM X B E [] (mNil : Ms S) := by
  refine pa_imp pa_nil fun σ H Q ⟨G, own, ρ, s, R, q⟩ => ?_
  exact q [] [] H R.refl .nil R.hide0
theorem CmR.fresh {A : Addr → Prop} {H0 H : Hp} : ∀ {vs : List V} {cs : List Sl} {ps : List Addr}, CmR B A H0 H vs cs ps → ∀ p ∈ ps, H0 p = none
  | _, _, _, .nil, _, h => by cases h
  | _, _, _, .val _ t, p, h => CmR.fresh t p h
  | _, _, _, .new h0 _ _ t, p, h => (List.mem_cons.mp h).elim (fun e => by rw [e]; exact h0) (CmR.fresh t p)
theorem CmR.base {A : Addr → Prop} {H0 H0' H : Hp} (k : ∀ p, H0 p = none → H0' p = none) : ∀ {vs : List V} {cs : List Sl} {ps : List Addr}, CmR B A H0 H vs cs ps → CmR B A H0' H vs cs ps
  | _, _, _, .nil => .nil
  | _, _, _, .val h t => .val h (CmR.base k t)
  | _, _, _, .new h0 h n t => .new (k _ h0) h n (CmR.base k t)
theorem CmR.mono {A A' : Addr → Prop} {H0 H : Hp} (k : ∀ a, A' a → A a) : ∀ {vs : List V} {cs : List Sl} {ps : List Addr}, CmR B A H0 H vs cs ps → CmR B A' H0 H vs cs ps
  | _, _, _, .nil => .nil
  | _, _, _, .val h t => .val (h.mono k) (CmR.mono k t)
  | _, _, _, .new h0 h n t => .new h0 (h.mono k) n (CmR.mono k t)
theorem PlR.wk {B : Bs} {A A' : Addr → Prop} {H : Hp} (k : ∀ a, A' a → A a ∨ H a = none) {v : V} {d : D} (h : PlR B A H v d) : PlR B A' H v d := by
  cases d with
  | tuple ds => obtain ⟨a, xs, e, h, r⟩ := h; exact ⟨a, xs, e, h, RpL.wk k r⟩
  | dict kvs => obtain ⟨a, ks, e, h, n, d, r⟩ := h; exact ⟨a, ks, e, h, (fun z => (k a z).elim n fun e => by rw [e] at h; cases h), d, RpM.wk k r⟩
  | _ => exact h.elim
theorem RvV.wk {A A' : Addr → Prop} {H : Hp} (k : ∀ a, A' a → A a ∨ H a = none) {v : V} : ∀ {y : Val}, RvV B A H v y → RvV B A' H v y
  | .d _, h => Rp.wk k h
  | .r _, h => h
  | .o _ _, ⟨a, C, dx, fs', e, c, h, n, l⟩ => ⟨a, C, dx, fs', e, c, h, (fun z => (k a z).elim n fun e => by rw [e] at h; cases h), fun q hq => let ⟨u, e, r⟩ := l q hq; ⟨u, e, r.wk k⟩⟩
  | .p _, h => PlR.wk k h
  | .f _, h => h
theorem OwnAt.wk {A A' : Addr → Prop} {H : Hp} (k : ∀ a, A' a → A a ∨ H a = none) {a : Addr} : ∀ {x : Sl}, OwnAt B A H a x → OwnAt B A' H a x
  | .l _, ⟨xs, h, r⟩ => ⟨xs, h, r.wk k⟩
  | .m _, .inl ⟨ks, h, r⟩ => .inl ⟨ks, h, r.wk k⟩
  | .m _, .inr ⟨ks, h, e, r⟩ => .inr ⟨ks, h, e, r.wk k⟩
  | .no, h => h
  | .v _, h => h
  | .g _ _ _, h => h
  | .q _ _, ⟨C, dx, vs, hc, h, hn, r⟩ => ⟨C, dx, vs, hc, h, hn, r.wk k⟩
theorem hide_kp {G : Gh} {own : Own} {ρ : Env} {s s' : S} {σ : Sg} {H H' : Hp} (R : Rel B G own ρ s σ H) (k : Stp G s' H H') (ps : List Addr) : Kp (Av (G.hide ps) own) H H' :=
  ⟨(R.kp k).tup, fun a o h n => (R.kp k).all a o h fun z => n ((av_hide a).mpr (.inl z))⟩
theorem ExW.hide {G : Gh} {ps : List Addr} {e : Exn} {s' : S} (h : ExW B G E e s') : ExW B (G.hide ps) E e s' := fun C od H' h1 h2 h3 h4 => h C od H' h1 h2 h3 (by
  obtain ⟨c, d⟩ := h4
  refine ⟨c, d.imp id fun ⟨dx, fs', e1, e2, l⟩ => ⟨dx, fs', e1, e2, fun q hq => let ⟨u, e, r⟩ := l q hq; ⟨u, e, r.mono fun a z => .inl z⟩⟩⟩)
theorem sat_ex {α : Type} {o : Out S α} {P : α → S → Prop} {T T' : Exn → S → Prop} (h : o.sat P T) (k : ∀ e s, T e s → T' e s) : o.sat P T' := by
  cases o with
  | bad => exact h
  | ok _ _ => exact h
  | ex e s => exact k e s h
theorem dm_val {es : List Expr} {g : Ms S} (h : DE X B E e f) (hs : DM X B E es g) (hst : starEach (e :: es) X.env = (false, eval e X.env) :: starEach es X.env := by rfl) : DM X B E (e :: es) (mVal f g) := by
  refine pa_imp (pa_cons h hs hst) fun σ H Q ⟨G, own, ρ, s, R, q⟩ => ?_
  refine tD.run R _ q.bnd fun y s1 v H1 q1 k1 r1 R1 => ?_
  refine ⟨G, own, ρ, s1, R1, q1.bnd.mono fun cs s2 q2 vs ps H2 k2 c2 R2 => ?_⟩
  refine q2 _ ps H2 (k1.trans k2) (.val ?_ (c2.base fun p hp => Stp.none R1 k1 hp)) R2
  exact (r1.wk fun a z => ((av_hide a).mp z).imp id fun z => c2.fresh a z).kp (hide_kp R1 k2 ps)
theorem dm_new {es : List Expr} {f : Nx S} {g : Ms S} (h : DN X B E e f) (hs : DM X B E es g) (hst : starEach (e :: es) X.env = (false, eval e X.env) :: starEach es X.env := by rfl) : DM X B E (e :: es) (mNew f g) := by
  refine pa_imp (pa_cons h hs hst) fun σ H Q ⟨G, own, ρ, s, R, q⟩ => ?_
  refine ⟨G, own, ρ, s, R, q.bnd.mono fun x s1 q1 p H1 k1 hp r1 => ?_⟩
  have hp1 : H1 p ≠ none := by
    cases x with
    | no => exact r1.elim
    | v _ => exact r1.elim
    | g _ _ _ => exact r1.elim
    | q _ _ => obtain ⟨_, _, _, _, e, _⟩ := r1; rw [e]; simp
    | l ds => obtain ⟨xs, e, _⟩ := r1; rw [e]; simp
    | m ds => rcases r1 with ⟨ks, e, _⟩ | ⟨ks, e, _⟩ <;> (rw [e]; simp)
  have R1 := R.stp k1
  have Rh := R.hid k1 hp hp1
  refine ⟨G.hide [p], own, ρ, s1, Rh, (sat_ex (T' := fun e s' => ExW B (G.hide [p]) E e s') q1.bnd fun _ _ z => z.hide).mono fun cs s2 q2 vs ps H2 k2 c2 R2 => ?_⟩
  have e1 : ∀ a, Av (G.hide (p :: ps)) own a ↔ Av ((G.hide [p]).hide ps) own a := fun a => by
    rw [av_hide, av_hide, av_hide, List.mem_cons, List.mem_singleton, or_assoc]
  have npq : p ∉ ps := fun z => hp1 (c2.fresh p z)
  have k2' : Stp G s2 H1 H2 := ⟨k2.fr, k2.dk, k2.rs⟩
  have R3 : Rel B (G.hide (p :: ps)) own ρ s2 σ H2 := by
    have e2 : (G.hide [p]).hide ps = G.hide (p :: ps) := by
      unfold Gh.hide
      congr 1
      funext a
      show ((G.A0 a ∨ a ∈ [p]) ∨ a ∈ ps) = (G.A0 a ∨ a ∈ p :: ps)
      rw [or_assoc, List.mem_singleton, List.mem_cons]
    rw [← e2]; exact R2
  refine q2 _ (p :: ps) H2 (k1.trans k2') (.new hp ?_ npq ((c2.mono fun a z => (e1 a).mp z).base fun q hq => Stp.none R1 k1 hq)) R3
  have w : OwnAt B (Av (G.hide (p :: ps)) own) H1 p x := r1.wk fun a z => by
    rcases (av_hide a).mp z with z | z
    · exact .inl (.inl z)
    · exact (List.mem_cons.mp z).elim (fun e => .inl (.inr e)) fun z => .inr (c2.fresh a z)
  refine w.kp (hide_kp R1 k2' _) fun o ho => k2'.fr p o ho fun z => ?_
  obtain ⟨o, e, _⟩ := R.dkT z
  rw [hp] at e; cases e
/-- the slots is get the components cs -/
def setAll : List Nat → List Sl → Env → Env
  | i :: is, c :: cs, ρ => setAll is cs (ρ.set i c)
  | _, _, ρ => ρ
def setVs : List Nat → List V → Sg → Sg
  | i :: is, v :: vs, σ => setVs is vs (σ.set i (some v))
  | _, _, σ => σ
theorem Rel.all {G : Gh} {ρ : Env} {s : S} {σ : Sg} {H H0 : Hp} (hw : ∀ a ∈ G.dks, G.A0 a) (hf : ∀ p, H0 p = none → G.H0 p = none ∧ ¬ G.A0 p) : ∀ {is : List Nat} {vs : List V} {cs : List Sl} {ps : List Addr} {own : Own} {ρ : Env} {σ : Sg},
    CmR B (Av (G.hide ps) own) H0 H vs cs ps → Rel B (G.hide ps) own ρ s σ H → vs.length = is.length → ∃ own', Rel B G own' (setAll is cs ρ) s (setVs is vs σ) H ∧ ∀ i a, own' i = some a → (∃ j, own j = some a) ∨ H0 a = none := by
  intro is
  induction is with
  | nil =>
    intro vs cs ps own ρ σ c R hl
    cases vs with
    | cons _ _ => cases hl
    | nil =>
      cases c with
      | nil =>
        refine ⟨own, ?_, fun i a h => .inl ⟨i, h⟩⟩
        have e : G.hide [] = G := by unfold Gh.hide; congr 1; funext a; simp
        rw [← e]; exact R
  | cons i is ih =>
    intro vs cs ps own ρ σ c R hl
    cases c with
    | nil => cases hl
    | val h t =>
      obtain ⟨own', R', k⟩ := ih t (R.set h) (by simpa using hl)
      exact ⟨own', R', k⟩
    | @new p x vs cs ps h0 h n t =>
      obtain ⟨f1, f2⟩ := hf _ h0
      obtain ⟨own1, R1, av1, ow1⟩ := R.adopt (i := i) f1 f2 n hw h
      have t1 := t.mono (A' := Av (G.hide ps) own1) av1
      obtain ⟨own', R', k⟩ := ih t1 R1 (by simpa using hl)
      refine ⟨own', R', fun j a e => ?_⟩
      rcases k j a e with ⟨l, e⟩ | e
      · rcases ow1 l a e with e | e
        · exact .inl ⟨l, e⟩
        · exact .inr (by rw [e]; exact h0)
      · exact .inr e
/-- a, b = x, y -/
def sPar (is : List Nat) (g : Ms S) : Sx S := fun ρ s => (g ρ s).bind fun cs s1 => if cs.length = is.length then .ok (.nx (setAll is cs ρ)) s1 else .bad
theorem CmR.len {A : Addr → Prop} {H0 H : Hp} : ∀ {vs : List V} {cs : List Sl} {ps : List Addr}, CmR B A H0 H vs cs ps → vs.length = cs.length
  | _, _, _, .nil => rfl
  | _, _, _, .val _ t => by simp [CmR.len t]
  | _, _, _, .new _ _ _ t => by simp [CmR.len t]
theorem par_end {G : Gh} {own : Own} {ρ : Env} {s s1 : S} {σ : Sg} {H H1 : Hp} (R : Rel B G own ρ s σ H) {vs : List V} {cs : List Sl} {ps : List Addr} (k : Stp G s1 H H1) (c : CmR B (Av (G.hide ps) own) H H1 vs cs ps) (Rh : Rel B (G.hide ps) own ρ s1 σ H1) {is : List Nat} (hl : cs.length = is.length)
    {Dd : Ends} (q : ∀ own' σ' H', Rel B G own' (setAll is cs ρ) s1 σ' H' → Gone G own own' H H' → Dd.nx σ' H') : Dd.nx (setVs is vs σ) H1 := by
  obtain ⟨own', R', k'⟩ := Rel.all (is := is) (ρ := ρ) (σ := σ) R.wf1 (fun p hp => ⟨(by
    cases z : G.H0 p with
    | none => rfl
    | some o =>
      by_cases hd : p ∈ G.dks
      · obtain ⟨o', e, _⟩ := R.dkT hd
        rw [hp] at e; cases e
      · rw [R.fr p o z hd] at hp; cases hp), fun z => R.wf2 p z hp⟩) c Rh (by rw [c.len, hl])
  exact q own' _ H1 R' ⟨fun a o h n _ => k.fr a o h n, k'⟩
theorem ds_par2 (c : Ctx X B) {i j : Nat} {x y : Str} {a b : Expr} {px py pt : Pos} {kt k2 : Nat} {pt2 : Pos} {g : Ms S} (ha : DM X B E [a, b] g) (hi : X.N[i]? = some x := by rfl) (hj : X.N[j]? = some y := by rfl) (hij : i ≠ j := by decide)
    (hx : X.env.scope.names.lookup x = some .local := by rfl) (hy : X.env.scope.names.lookup y = some .local := by rfl)
    (hw : swappedStores [.Tuple [.Name x px, .Name y py] kt pt] (.Tuple [a, b] k2 pt2) X.env = pure (some [x, y]) := by rfl) (hs : swapsWithSole [.Tuple [.Name x px, .Name y py] kt pt] (.Tuple [a, b] k2 pt2) pos.line X.env = pure false := by rfl) :
    DS X B E (.Assign [.Tuple [.Name x px, .Name y py] kt pt] (.Tuple [a, b] k2 pt2) pos) (sPar [i, j] g) := by
  refine ps_imp (ps_par c.calm c.nd hi hj hij hx hy ha hw hs) fun Dd σ H ⟨G, own, ρ, s, R, q⟩ => ?_
  refine ⟨G, own, ρ, s, R, q.bnd.mono fun cs s1 q1 vs ps H1 k1 c1 R1 => ?_⟩
  split at q1
  · rename_i hl
    have hv := c1.len
    rw [hl] at hv
    obtain ⟨v, w, rfl⟩ : ∃ v w, vs = [v, w] := by
      cases vs with
      | nil => cases hv
      | cons v r => cases r with
        | nil => cases hv
        | cons w r => cases r with
          | nil => exact ⟨v, w, rfl⟩
          | cons _ _ => cases hv
    exact ⟨v, w, rfl, par_end R k1 c1 R1 hl q1⟩
  · exact q1.elim
theorem ds_par3 (c : Ctx X B) {i j l : Nat} {x y z : Str} {a b d : Expr} {px py pz pt : Pos} {kt k2 : Nat} {pt2 : Pos} {g : Ms S} (ha : DM X B E [a, b, d] g) (hi : X.N[i]? = some x := by rfl) (hj : X.N[j]? = some y := by rfl) (hl : X.N[l]? = some z := by rfl)
    (hij : i ≠ j := by decide) (hil : i ≠ l := by decide) (hjl : j ≠ l := by decide)
    (hx : X.env.scope.names.lookup x = some .local := by rfl) (hy : X.env.scope.names.lookup y = some .local := by rfl) (hz : X.env.scope.names.lookup z = some .local := by rfl)
    (hw : swappedStores [.Tuple [.Name x px, .Name y py, .Name z pz] kt pt] (.Tuple [a, b, d] k2 pt2) X.env = pure (some [x, y, z]) := by rfl) (hs : swapsWithSole [.Tuple [.Name x px, .Name y py, .Name z pz] kt pt] (.Tuple [a, b, d] k2 pt2) pos.line X.env = pure false := by rfl) :
    DS X B E (.Assign [.Tuple [.Name x px, .Name y py, .Name z pz] kt pt] (.Tuple [a, b, d] k2 pt2) pos) (sPar [i, j, l] g) := by
  refine ps_imp (L2.ps_par3 c.calm c.nd hi hj hl hij hil hjl hx hy hz ha hw hs) fun Dd σ H ⟨G, own, ρ, s, R, q⟩ => ?_
  refine ⟨G, own, ρ, s, R, q.bnd.mono fun cs s1 q1 vs ps H1 k1 c1 R1 => ?_⟩
  split at q1
  · rename_i hl
    have hv := c1.len
    rw [hl] at hv
    obtain ⟨u, v, w, rfl⟩ : ∃ u v w, vs = [u, v, w] := by
      cases vs with
      | nil => cases hv
      | cons u r => cases r with
        | nil => cases hv
        | cons v r => cases r with
          | nil => cases hv
          | cons w r => cases r with
            | nil => exact ⟨u, v, w, rfl⟩
            | cons _ _ => cases hv
    exact ⟨u, v, w, rfl, par_end R k1 c1 R1 hl q1⟩
  · exact q1.elim
def gsIx : List Nat → TGs
  | [] => gNil
  | i :: is => gCons (gName i) (gsIx is)
theorem gsIx_of : ∀ (is : List Nat) (vs : List V) (σ : Sg) (H : Hp) (Q : Sg → Hp → Prop), vs.length = is.length → Q (setVs is vs σ) H → gsIx is vs σ H Q
  | [], [], _, _, _, _, q => ⟨rfl, q⟩
  | [], _ :: _, _, _, _, h, _ => by cases h
  | _ :: _, [], _, _, _, h, _ => by cases h
  | i :: is, v :: vs, σ, H, Q, h, q => ⟨v, vs, rfl, gsIx_of is vs _ H Q (by simpa using h) q⟩
theorem CmR.step {A : Addr → Prop} {H0 H H' : Hp} (k : Kp A H H') (kn : ∀ p o, H0 p = none → H p = some o → H' p = some o) : ∀ {vs : List V} {cs : List Sl} {ps : List Addr}, CmR B A H0 H vs cs ps → CmR B A H0 H' vs cs ps
  | _, _, _, .nil => .nil
  | _, _, _, .val h t => .val (h.kp k) (CmR.step k kn t)
  | _, _, _, .new h0 h n t => .new h0 (h.kp k fun o e => kn _ o h0 e) n (CmR.step k kn t)
/-- is: the targets' slots -/
theorem ds_parT (c : Ctx X B) (is : List Nat) {ts es : List Expr} {kt k2 : Nat} {pt pt2 : Pos} {g : Ms S} (ha : DM X B E es g) (ht : PGs X ts (gsIx is)) (hl : ts.length = is.length := by rfl) (hsz : is.length ≤ sizeLine := by decide)
    (hn : (assignEach ts X.env).length = is.length := by rfl) (hst : (assignEach ts X.env).findIdx? (·.1) = none := by rfl)
    (hs : swapsWithSole [.Tuple ts kt pt] (.Tuple es k2 pt2) pos.line X.env = pure false := by rfl) (hw : swappedStores [.Tuple ts kt pt] (.Tuple es k2 pt2) X.env = pure none := by rfl)
    (h1 : (assignEach [.Tuple ts kt pt] X.env).map (·.2) = [assign (.Tuple ts kt pt) X.env] := by rfl) : DS X B E (.Assign [.Tuple ts kt pt] (.Tuple es k2 pt2) pos) (sPar is g) := by
  refine ps_imp (ps_asg (pe_tup ha) (pg_tup c.calm ht hn hst) hs hw h1) fun Dd σ H ⟨G, own, ρ, s, R, q⟩ => ?_
  refine ⟨G, own, ρ, s, R, q.bnd.mono fun cs s1 q1 vs ps H1 k1 c1 R1 => ?_⟩
  split at q1
  · rename_i hc
    refine ⟨by rw [c1.len, hc]; exact hsz, fun p hp => ?_⟩
    refine ⟨p, vs, rfl, SqT.of upd_same, by rw [c1.len, hc], gsIx_of is vs σ _ _ (by rw [c1.len, hc]) ?_⟩
    have sm := same_upd (o := .tup vs) hp
    have st : Stp (G.hide ps) s1 H1 (upd H1 p (.tup vs)) := R1.same sm
    have st' : Stp G s1 H1 (upd H1 p (.tup vs)) := ⟨st.fr, st.dk, st.rs⟩
    exact par_end R (k1.trans st') (c1.step (R1.kp st) fun q o _ e => sm q o e) (R1.stp st) hc q1
  · exact q1.elim
end
end DL
namespace DL
open PySem PySem.Spec PyProof.Rows L2
/-- the deck: the list at dk, the numbers' own list at a0 -/
structure Dk where
  dk : Addr
  a0 : Addr
  cells : List Int
  beg : Int
  lft : Int
  drw : Int
  ne : dk ≠ a0
def Dk.items (s : Dk) : List V := [.ref s.a0, .int s.beg, .int s.lft, .int s.drw]
def Dk.rep (s : Dk) (H : Hp) : Prop := H s.dk = some (.lst s.items) ∧ H s.a0 = some (.lst (s.cells.map V.int)) ∧ ∀ p ∈ tabs, TabO H p.1 p.2
def Dk.as (s : Dk) : List Addr := s.dk :: s.a0 :: tabs.map (·.1)
theorem mem_tabs {a : Addr} (h : a ∈ tabs.map (·.1)) : ∃ q, (a, q) ∈ tabs := let ⟨p, hp, e⟩ := List.mem_map.mp h; ⟨p.2, by rw [← e]; exact hp⟩
instance : SI Dk where
  dks := Dk.as
  rep := Dk.rep
  there := fun s H a h m => by
    rcases List.mem_cons.mp m with rfl | m
    · exact ⟨_, h.1, rfl⟩
    rcases List.mem_cons.mp m with rfl | m
    · exact ⟨_, h.2.1, rfl⟩
    · obtain ⟨q, hq⟩ := mem_tabs m
      obtain ⟨ps, e, _⟩ := h.2.2 _ hq
      exact ⟨_, e, rfl⟩
  keep := fun s H H' h k t => ⟨by rw [k s.dk (List.mem_cons_self ..)]; exact h.1, by rw [k s.a0 (List.mem_cons_of_mem _ (List.mem_cons_self ..))]; exact h.2.1, fun p hp => (h.2.2 p hp).kp (k _ (List.mem_cons_of_mem _ (List.mem_cons_of_mem _ (List.mem_map.mpr ⟨p, hp, rfl⟩)))) t⟩
def Dk.get (s : Dk) : Nat → Option Int
  | 1 => some s.beg
  | 2 => some s.lft
  | 3 => some s.drw
  | _ => none
def Dk.put (s : Dk) (j : Nat) (x : Int) : Dk := match j with
  | 1 => { s with beg := x }
  | 2 => { s with lft := x }
  | _ => { s with drw := x }
/-- the deck is the value of slot i -/
def isDk (i : Nat) (ρ : Env) (s : Dk) : Bool := match ρ[i]? with
  | some (.v (.r (.ref a))) => a == s.dk
  | _ => false
section
variable {X : Cx} {B : Bs} {E : XK} {e a b : Expr} {f : Ex Dk} {pos p p2 p3 : Pos} {G : Gh} {own : Own} {ρ : Env} {s : Dk} {σ : Sg} {H : Hp}
theorem isDk_at (R : Rel B G own ρ s σ H) {i : Nat} (h : isDk i ρ s = true) : σ[i]? = some (some (.ref s.dk)) := by
  unfold isDk at h
  split at h
  · rename_i a hz
    obtain ⟨u, e, r⟩ := R.sl i _ hz
    rw [e, show u = V.ref a from r, beq_iff_eq.mp h]
  · cases h
theorem Dk.at_ {s : Dk} {j : Nat} {x : Int} (h : s.get j = some x) : L2.atI s.items (j : Int) = some (.int x) := by
  refine atI_nat ?_
  unfold Dk.get at h
  split at h <;> cases h <;> rfl
def eDk (i j : Nat) : Ex Dk := fun ρ s => if isDk i ρ s then (match s.get j with
  | some x => .ok (.d (.int x)) s
  | none => .bad) else .bad
theorem de_dk (i j : Nat) {x : Expr} {k : Nat} (hv : PE X x (tVar i)) : DE X B E (.Subscript x (.Constant (.int (j : Int)) k p) pos) (eDk i j) := by
  refine pe_imp (pe_ix ix_list hv pe_int (fun _ _ => rfl)) fun σ H Q ⟨G, own, ρ, s, R, q⟩ => ?_
  unfold eDk at q
  by_cases hd : isDk i ρ s = true
  · rw [if_pos hd] at q
    cases hz : s.get j with
    | none => rw [hz] at q; exact q.elim
    | some x =>
      rw [hz] at q
      exact ⟨_, isDk_at R hd, _, s.items, _, _, rfl, rfl, SqL.of R.rs.1, Dk.at_ hz, q _ H R.refl (.int _)⟩
  · rw [if_neg hd] at q; exact q.elim
/-- deck[0] != [] -/
def xDkNe (i : Nat) : Tx Dk := fun ρ s => if isDk i ρ s then .ok (!s.cells.isEmpty) s else .bad
theorem dp_ints {K : PySem.W.Frag} {H : Hp} : ∀ ns : List Int, DpAll K H (ns.map V.int) (ns.map .int)
  | [] => .nil
  | n :: r => .cons (.int n) (dp_ints r)
theorem lay_ints : ∀ ns : List Int, PyData.canLayAll0 (ns.map .int) = true
  | [] => rfl
  | n :: r => by simp [PyData.canLayAll0, PyData.canLay0, lay_ints r]
theorem dep_ints : ∀ ns : List Int, PyData.depthAll (ns.map .int) = 0
  | [] => rfl
  | n :: r => by simp [PyData.depthAll, PyData.depth, dep_ints r]
theorem shaped_ints (ns : List Int) : SeqAt.shaped (.list (ns.map .int)) = true := by
  unfold SeqAt.shaped
  rw [Bool.and_eq_true]
  exact ⟨by simp [PyData.canLay0, lay_ints], by simp [PyData.depth, dep_ints]⟩
theorem dt_dkne (c : Ctx X B) (i : Nat) {x : Expr} {k : Nat} (hv : PE X x (tVar i)) : DT X B E (.Compare (.Subscript x (.Constant (.int 0) k p) p2) [.NotEq] [.List [] p3] pos) (xDkNe i) := by
  refine pt_imp (pt_cmpR (op_neD c.u64) (pe_ix ix_list hv pe_int (fun _ _ => rfl)) (pe_lst pa_nil) (nomark _)) fun σ H Q ⟨G, own, ρ, s, R, q⟩ => ?_
  unfold xDkNe at q
  by_cases hd : isDk i ρ s = true
  · rw [if_pos hd] at q
    refine ⟨_, isDk_at R hd, _, s.items, 0, .ref s.a0, rfl, rfl, SqL.of R.rs.1, rfl, ?_⟩
    refine ⟨Nat.zero_le _, fun t ht => ⟨.list (s.cells.map .int), .list [], ?_, ?_, shaped_ints _, by decide, _, rfl, ?_⟩⟩
    · have : t ≠ s.a0 := by rintro rfl; rw [R.rs.2.1] at ht; cases ht
      exact .lst (SqL.of (by rw [upd_ne (Ne.symm this)]; exact R.rs.2.1)) (dp_ints _)
    · exact .lst (SqL.of upd_same) .nil
    · have := q _ (R.put (o := .lst []) ht)
      have e : (!PyData.eqv (.list (s.cells.map .int)) (.list [])) = !s.cells.isEmpty := by
        cases s.cells <;> simp [PyData.eqv, PyData.eqvAll]
      rw [e]
      exact this
  · rw [if_neg hd] at q; exact q.elim
/-- deck[0][e] -/
def eDkC (i : Nat) (f : Ex Dk) : Ex Dk := fun ρ s => if isDk i ρ s then (f ρ s).bind fun y s1 => (match y with
  | .d (.int j) => if s1.dk = s.dk ∧ s1.a0 = s.a0 then (match L2.atI s1.cells j with
    | some x => .ok (.d (.int x)) s1
    | none => .bad) else .bad
  | _ => .bad) else .bad
theorem atI_map {α β : Type} (g : α → β) (xs : List α) (i : Int) : L2.atI (xs.map g) i = (L2.atI xs i).map g := by
  unfold L2.atI
  rw [List.length_map]
  cases ixN xs.length i with
  | none => rfl
  | some j => simp
theorem de_dkc (i : Nat) {x : Expr} {k : Nat} (hv : PE X x (tVar i)) (h : DB X B E e f) (hs : PlainIx e := by first | exact fun _ _ => rfl) : DE X B E (.Subscript (.Subscript x (.Constant (.int 0) k p) p2) e pos) (eDkC i f) := by
  refine pe_imp (pe_ix ix_list (pe_ix ix_list hv pe_int (fun _ _ => rfl)) h hs) fun σ H Q ⟨G, own, ρ, s, R, q⟩ => ?_
  unfold eDkC at q
  by_cases hd : isDk i ρ s = true
  · rw [if_pos hd] at q
    refine ⟨_, isDk_at R hd, _, s.items, 0, .ref s.a0, rfl, rfl, SqL.of R.rs.1, rfl, ?_⟩
    refine tB.run R _ q.bnd fun y s1 v H1 q1 k1 r1 R1 => ?_
    cases y with
    | r _ => exact q1.elim
    | o _ _ => exact q1.elim
    | p _ => exact q1.elim
    | f _ => exact q1.elim
    | d d =>
      cases d with
      | int j =>
        dsimp only at q1
        split at q1
        · rename_i hs
          cases hz : L2.atI s1.cells j with
          | none => rw [hz] at q1; exact q1.elim
          | some x =>
            rw [hz] at q1
            refine ⟨s.a0, s1.cells.map V.int, j, .int x, rfl, rt_int r1, SqL.of (by rw [← hs.2]; exact R1.rs.2.1), by rw [atI_map, hz]; rfl, q1 _ H1 k1 (.int _)⟩
        · exact q1.elim
      | _ => exact q1.elim
  · rw [if_neg hd] at q; exact q.elim
/-- len(deck[0]) -/
def eDkL (i : Nat) : Ex Dk := fun ρ s => if isDk i ρ s then .ok (.d (.int s.cells.length)) s else .bad
theorem de_dkl (i : Nat) {x : Expr} {k : Nat} (hv : PE X x (tVar i)) (hm : X.mg "len" = none) (hg : Gl X "len" := by rfl)
    (he : starEach [.Subscript x (.Constant (.int 0) k p) p2] X.env = (false, eval (.Subscript x (.Constant (.int 0) k p) p2) X.env) :: starEach [] X.env := by rfl) (hpl : (backTo pos (starEach [] X.env)).any (·.1) = false := by rfl) :
    DE X B E (.Call (.Name "len" p3) [.Subscript x (.Constant (.int 0) k p) p2] [] pos) (eDkL i) := by
  refine pe_imp (pe_callB call_len hg hm boot_len (pa_cons (pe_ix ix_list hv pe_int (fun _ _ => rfl)) pa_nil he) (he := he) (hpl := hpl)) fun σ H Q ⟨G, own, ρ, s, R, q⟩ => ?_
  unfold eDkL at q
  by_cases hd : isDk i ρ s = true
  · rw [if_pos hd] at q
    refine ⟨_, isDk_at R hd, _, s.items, 0, .ref s.a0, rfl, rfl, SqL.of R.rs.1, rfl, ?_⟩
    exact ⟨_, s.cells.length, rfl, .inl ⟨s.cells.map V.int, SqL.of R.rs.2.1, by simp⟩, q _ H R.refl (.int _)⟩
  · rw [if_neg hd] at q; exact q.elim
/-- deck[j] = e -/
def sDk (i j : Nat) (f : Ex Dk) : Sx Dk := fun ρ s => (f ρ s).bind fun y s1 => if isDk i ρ s1 then (match y with
  | .d (.int x) => if j = 1 ∨ j = 2 ∨ j = 3 then .ok (.nx ρ) (s1.put j x) else .bad
  | _ => .bad) else .bad
theorem ds_dk (i j : Nat) {x : Expr} {k : Nat} (hv : PE X x (tVar i)) (h : DE X B E e f) (hs : swapsWithSole [.Subscript x (.Constant (.int (j : Int)) k p) p2] e pos.line X.env = pure false := by rfl) (hw : swappedStores [.Subscript x (.Constant (.int (j : Int)) k p) p2] e X.env = pure none := by rfl)
    (h1 : (assignEach [.Subscript x (.Constant (.int (j : Int)) k p) p2] X.env).map (·.2) = [assign (.Subscript x (.Constant (.int (j : Int)) k p) p2) X.env] := by rfl) : DS X B E (.Assign [.Subscript x (.Constant (.int (j : Int)) k p) p2] e pos) (sDk i j f) := by
  refine ps_imp (ps_asg h (pg_sub hv pe_int set_list) hs hw h1) fun Dd σ H ⟨G, own, ρ, s, R, q⟩ => ?_
  refine tD.run R _ q.bnd fun y s1 v H1 q1 k1 r1 R1 => ?_
  by_cases hd : isDk i ρ s1 = true
  · rw [if_pos hd] at q1
    cases y with
    | r _ => exact q1.elim
    | o _ _ => exact q1.elim
    | p _ => exact q1.elim
    | f _ => exact q1.elim
    | d d =>
      cases d with
      | int z =>
        dsimp only at q1
        split at q1
        · rename_i hj
          have ev : v = .int z := by cases r1; rfl
          subst ev
          have hij : ixN s1.items.length (j : Int) = some j := by
            rcases hj with rfl | rfl | rfl <;> rfl
          refine ⟨_, isDk_at R1 hd, _, s1.items, (j : Int), j, rfl, rfl, R1.rs.1, hij, ?_⟩
          have hdk : (s1.put j z).dk = s1.dk := by rcases hj with rfl | rfl | rfl <;> rfl
          have ha0 : (s1.put j z).a0 = s1.a0 := by rcases hj with rfl | rfl | rfl <;> rfl
          have hce : (s1.put j z).cells = s1.cells := by rcases hj with rfl | rfl | rfl <;> rfl
          have hit : s1.items.set j (.int z) = (s1.put j z).items := by rcases hj with rfl | rfl | rfl <;> rfl
          have mem : s1.dk ∈ G.dks := by rw [← R1.dk]; exact List.mem_cons_self ..
          have stp : Stp G (s1.put j z) H1 (upd H1 s1.dk (.lst (s1.items.set j (.int z)))) := by
            refine ⟨fun b o hb n => ?_, ?_, ?_, ?_⟩
            · rw [upd_ne]
              · exact hb
              · rintro rfl; exact n mem
            · rw [← R1.dk]
              show (s1.put j z).dk :: (s1.put j z).a0 :: tabs.map (·.1) = s1.dk :: s1.a0 :: tabs.map (·.1)
              rw [hdk, ha0]
            · rw [hdk, hit]; exact upd_same
            · refine ⟨by rw [ha0, hce, upd_ne (Ne.symm s1.ne)]; exact R1.rs.2.1, fun p hp => (R1.rs.2.2 p hp).kp ?_ fun b u hu h => ?_⟩
              · rw [upd_ne]
                intro e9
                obtain ⟨ps, e8, _⟩ := R1.rs.2.2 p hp
                rw [e9, R1.rs.1] at e8
                cases e8
              · rw [upd_ne]
                · exact h
                · rintro rfl
                  rw [R1.rs.1] at h
                  cases h
                  cases hu
          exact q1 own _ _ (R1.stp stp) ((Gone.of_stp k1).trans R1 (.of_stp stp))
        · exact q1.elim
      | _ => exact q1.elim
  · rw [if_neg hd] at q1; exact q1.elim
end
section
variable {P : Program} {w : World} {K : PySem.W.Frag} {mg : Str → Option Value} {base : Heap} {B : Bs} {k n : Nat} {f : Addr} {fd : FuncData} {ps N : List Str} {x qual : Str} {st : Stmt} {sp : Sp}
/-- a def by hand -/
theorem fg_hand (hP : B.P = P) (hK : B.K = K) (hw : B.w = w) (F : Fun K x qual st f fd) (Sc : FnScope N ps (defScope st)) (len : ∀ vs H Q E, sp vs H Q E → vs.length = ps.length)
    (h : ∀ (cdv : Value) (A : Around) (outer : List PySem.Env) (s : Shared) (H : Hp) (vs : List V) (Q : VK) (E : XK), Ctx (cxP P w K mg base N qual st f cdv A outer s H E) B → Room k (cxP P w K mg base N qual st f cdv A outer s H E).A → sp vs H Q E →
      ∃ t, PSs (cxP P w K mg base N qual st f cdv A outer s H E) (defBody st) t ∧ t { nx := fun _ H' => Q .non H', rt := Q } (L2.start N vs) H) : FnG P w K mg base CX0 (k + 1) f fd ps sp := by
  obtain ⟨oc, od, kV, doc, pm, an, cdv, ct, osl, rfl, lk, hcd⟩ := F.ex
  refine fg_of lk hcd Sc len fun A outer s H vs Q E hr hg hsp => ?_
  obtain ⟨t, ht, q⟩ := h cdv A outer s H vs Q E (ctx_of hP hK hw Sc hr hg).nox hr hsp
  exact ⟨t, ht.nox, q⟩
def spDeck (K : PySem.W.Frag) : Sp := fun vs H Q _ => ∃ (a : Addr) (ns : List Int), vs = [.ref a] ∧ SqL K H a (ns.map V.int) ∧ ns.length ≤ 63 ∧
  ∀ H' p p0, Same H H' → H p = none → H p0 = none → p ≠ p0 → H' p = some (.lst [.ref p0, .int 0, .int 0, .int 0]) → H' p0 = some (.lst (ns.map V.int)) → Q (.ref p) H'
def spLaw (K : PySem.W.Frag) : Sp := fun vs H Q _ => ∃ (a : Addr) (ns : List Int), vs = [.ref a] ∧ SqL K H a (ns.map V.int) ∧ ns.length ≤ 63 ∧ (∀ p ∈ tabs, TabO H p.1 p.2) ∧ ∀ H', Q (.bl true) H'
theorem cut63 (ns : List Int) (h : ns.length ≤ 63) : cutV (ns.map V.int) none (some 63) = ns.map V.int := by
  unfold cutV
  have e : HT.sIx (ns.map V.int).length (ns.map V.int).length (some 63) = ns.length := by
    rw [show (63 : Int) = ((63 : Nat) : Int) from rfl, HT.sIx_nat, List.length_map]
    omega
  rw [e, HT.sIx_none]
  simp [List.take_of_length_le]
theorem deck_read {K : PySem.W.Frag} {H : Hp} {a : Addr} {ns : List Int} {Q : VK} (hS : SqL K H a (ns.map V.int)) (hl : ns.length ≤ 63) (q : ∀ H' p p0, Same H H' → H p = none → H p0 = none → p ≠ p0 → H' p = some (.lst [.ref p0, .int 0, .int 0, .int 0]) → H' p0 = some (.lst (ns.map V.int)) → Q (.ref p) H')
    {σ : Sg} (hσ : σ[0]? = some (some (.ref a))) :
    tLst (tCons (tCB (fun xs H Q => ∃ p ys, xs = [.ref p] ∧ (SqL K H p ys ∨ SqT K H p ys) ∧ ∀ l, H l = none → Q (.ref l) (upd H l (.lst ys))) (tCons (tSl (rSlL K) (tVar 0) tNoPart (tPart (tC (.int 63)))) tNil)) (tCons (tC (.int 0)) (tCons (tC (.int 0)) (tCons (tC (.int 0)) tNil)))) σ H Q := by
  refine ⟨_, hσ, 63, rfl, a, _, rfl, hS, fun t ht => ⟨t, _, rfl, .inl (SqL.of upd_same), fun p0 hp0 => ⟨by show 4 ≤ sizeLine; decide, fun p hp => ?_⟩⟩⟩
  have n1 : p0 ≠ t := fun e => by rw [e, upd_same] at hp0; cases hp0
  have n2 : p ≠ p0 := fun e => by rw [e, upd_same] at hp; cases hp
  have h0 : H p0 = none := by rw [upd_ne n1] at hp0; exact hp0
  have n3 : p ≠ t := fun e => by rw [upd_ne n2, e, upd_same] at hp; cases hp
  have hp' : H p = none := by rw [upd_ne n2, upd_ne n3] at hp; exact hp
  refine q _ p p0 (fun b o e => ?_) hp' h0 n2 upd_same ?_
  · rw [upd_ne (ne_of_none e hp'), upd_ne (ne_of_none e h0), upd_ne (ne_of_none e ht)]; exact e
  · rw [upd_ne (Ne.symm n2), upd_same, cut63 ns hl]
/-- the law's further statements give True, whatever stands in the script -/
def LawTrue (n : Nat) (g : Sx Dk) : Prop := ∀ (ns : List Int) (p p0 : Addr) (ne : p ≠ p0), ns.length ≤ 63 → ∃ s', g (.no :: .v (.r (.ref p)) :: List.replicate n .no) ⟨p, p0, ns, 0, 0, 0, ne⟩ = .ok (.rt (.d (.bool true))) s'
theorem law_read {B : Bs} {a : Addr} {ns : List Int} {H : Hp} {Dd : Ends} {g : Sx Dk} (hB : B.K = K) (hS : SqL K H a (ns.map V.int)) (hl : ns.length ≤ 63) (hN : N.length = n + 2) (ht : LawTrue n g) (k : (∀ p ∈ tabs, TabO H p.1 p.2) ∧ ∀ H', Dd.rt (.bl true) H') :
    tSeq (tAsg (fun σ H Q => (tCons (tVar 0) tNil) σ H fun vs H1 => spDeck K vs H1 Q E0) (gName 1)) (tS B E00 g) Dd (L2.start N [.ref a]) H := by
  have hst : L2.start N [.ref a] = some (.ref a) :: none :: List.replicate n none := by
    unfold L2.start
    rw [hN]
    show some (V.ref a) :: List.replicate (n + 1) none = _
    rw [List.replicate_succ]
  rw [hst]
  refine ⟨_, rfl, a, ns, rfl, hS, hl, fun H' p p0 sm hp hp0 ne e1 e2 => ?_⟩
  obtain ⟨s', e⟩ := ht ns p p0 ne hl
  let s0 : Dk := ⟨p, p0, ns, 0, 0, 0, ne⟩
  have hT : ∀ p ∈ tabs, TabO H' p.1 p.2 := fun p hp => by
    obtain ⟨ps, e8, _⟩ := k.1 p hp
    exact (k.1 p hp).kp (by rw [sm _ _ e8, e8]) fun b u _ h => sm b u h
  let G : Gh := ⟨H', fun b => b ∈ s0.as, s0.as⟩
  refine ⟨G, fun _ => none, .no :: .v (.r (.ref p)) :: List.replicate n .no, s0, ⟨fun b hb => hb, fun b hb => ?_, fun _ _ h _ => h, rfl, ⟨e1, e2, hT⟩, fun _ _ _ h => (nomatch h), fun _ _ h => (nomatch h), fun _ _ h => (nomatch h), ?_, fun i x hx => ?_⟩, ?_⟩
  · obtain ⟨o, e9, _⟩ := SI.there s0 H' b (show Dk.rep s0 H' from ⟨e1, e2, hT⟩) hb
    rw [e9]; simp
  · simp
  · match i, hx with
    | 0, hx => cases hx; trivial
    | 1, hx => cases hx; exact ⟨.ref p, rfl, rfl⟩
    | i + 2, hx =>
      have hx : (List.replicate n Sl.no)[i]? = some x := hx
      rw [List.getElem?_replicate] at hx
      split at hx
      · cases hx; trivial
      · cases hx
  · show (g (.no :: .v (.r (.ref p)) :: List.replicate n .no) s0).sat _ _
    rw [e]
    intro v H2 _ r
    cases r
    exact k.2 H2
end
section
variable {X : Cx} {B : Bs} {E : XK} {x : Str} {p : Pos}
theorem de_gstr {i : Str} {t : Tok} (hm : X.mg x = some (.str i t)) (hg : Gl X x := by rfl) (hd : (x == ("__debug__" : Str)) = false := by decide) : DE X B E (.Name x p) (eC (.str i) : Ex Dk) :=
  de_c (pe_glob (v := V.str i) hg hm ⟨_, rfl⟩ hd) fun _ _ => .str _
end
end DL
namespace DL
open PySem PySem.Spec PyProof.Rows L2
section
variable {S : Type} [SI S] {X : Cx} {B : Bs} {E : XK} {e ei : Expr} {f fi : Ex S} {pos p2 : Pos}
theorem RpL.set {A : Addr → Prop} {H : Hp} : ∀ {xs : List V} {ds : List D} {v : V} {d : D}, RpL B A H xs ds → Rp B A H v d → ∀ n, RpL B A H (xs.set n v) (ds.set n d)
  | _, _, _, _, .nil, _, _ => .nil
  | _, _, _, _, .cons a t, h, 0 => .cons h t
  | _, _, _, _, .cons a t, h, n + 1 => .cons a (RpL.set t h n)
/-- xs[::-1] -/
def opRev : D → Option D
  | .list ds => some (.list ds.reverse)
  | .tuple ds => some (.tuple ds.reverse)
  | _ => none
end
section
variable {prog : Program} {w : World} {A : Around} {E : Value → Shared → Prop} {s : Shared}
theorem places_rev (n : Nat) : Builtin.Slice.slicePlaces ((n : Int) - 1) (-1) (-1) = n := by
  unfold Builtin.Slice.slicePlaces
  rw [if_neg (by decide)]
  by_cases h : (n : Int) - 1 > -1
  · rw [if_pos h, show (- (-1 : Int)) = 1 from rfl, Int.ediv_one]
    omega
  · rw [if_neg h]
    omega
theorem sliceApplied_rev {sl : Addr} {vl vu vs : Value} {n : Nat} {Q : Int × Int × Nat → Shared → Prop} (hs : s.heap.IsSliceOf sl vl vu vs) (pl : IsPart vl none) (pu : IsPart vu none) (ps : IsPart vs (some (-1)))
    (h : Q ((n : Int) - 1, -1, n) s) : wpAny (model prog w) A (Builtin.Slice.sliceApplied (.ref sl) (pure (n : Int))) Q E s := by
  obtain ⟨os, hos, hcs, hds⟩ := id hs
  unfold Builtin.Slice.sliceApplied Builtin.Slice.sliceFields
  refine wpAny_bind (wpAny_bind (wpAny_field hos hds (x := vl) rfl (wpAny_bind (wpAny_field hos hds (x := vu) rfl (wpAny_bind (wpAny_field hos hds (x := vs) rfl (wpAny_pure ?_)))))))
  refine wpAny_bind (HT.slicePart_ ps ?_)
  show wpAny _ _ (if ((-1 : Int) == 0) = true then _ else _) _ _ s
  rw [if_neg (by decide)]
  refine wpAny_bind (HT.slicePart_ pl (wpAny_bind (HT.slicePart_ pu (wpAny_bind (wpAny_pure ?_)))))
  show wpAny _ _ (pure ((n : Int) - 1, (-1 : Int), Builtin.Slice.slicePlaces ((n : Int) - 1) (-1) (-1))) _ _ s
  rw [places_rev]
  exact wpAny_pure h
theorem pick_rev {α : Type} (xs : Array α) : ((List.range xs.size).filterMap fun (k : Nat) => xs[((xs.size : Int) - 1 + (k : Int) * (-1)).toNat]?) = xs.toList.reverse := by
  have e : (fun (k : Nat) => xs[((xs.size : Int) - 1 + (k : Int) * (-1)).toNat]?) = fun k => xs[xs.size - 1 - k]? := by
    funext k
    congr 1
    omega
  rw [e]
  apply List.ext_getElem?
  intro i
  have hf : ∀ n, n ≤ xs.size → (List.range n).filterMap (fun k => xs[xs.size - 1 - k]?) = (xs.toList.reverse).take n := by
    intro n
    induction n with
    | zero => intro _; simp
    | succ n ih =>
      intro hn
      rw [List.range_succ, List.filterMap_append, ih (by omega)]
      have h1 : xs[xs.size - 1 - n]? = some xs[xs.size - 1 - n] := Array.getElem?_eq_getElem (by omega)
      simp only [List.filterMap_cons, h1, List.filterMap_nil]
      rw [List.take_succ]
      congr 1
      rw [List.getElem?_reverse (by rw [Array.length_toList]; omega)]
      rw [show xs.toList.length = xs.size from Array.length_toList]
      rw [Array.getElem?_toList, h1]
      rfl
  rw [hf xs.size (Nat.le_refl _), List.take_of_length_le (by simp)]
theorem getItem_tuple_rev {t sl : Addr} {items : Array Value} {vl vu vs : Value} {Q : Value → Shared → Prop} (ht : IsTup s.heap t items) (hs : s.heap.IsSliceOf sl vl vu vs) (pl : IsPart vl none) (pu : IsPart vu none) (ps : IsPart vs (some (-1)))
    (h : Q (.ref s.heap.objs.size) { s with heap := s.heap.push { cls := .type "tuple", data := .seq items.toList.reverse.toArray } })
    (hsz : items.size ≤ sizeLine) : wpAny (model prog w) A (getItem (.ref t) (.ref sl)) Q E s := by
  have htake : sizeOk (.seq items.toList.reverse.toArray) := by
    show items.toList.reverse.toArray.size ≤ sizeLine
    rw [List.size_toArray, List.length_reverse, Array.length_toList]
    exact hsz
  obtain ⟨os, hos, hcs, hds⟩ := id hs
  have hTs : s.TypeIs (.ref sl) "slice" := ⟨os, hos, hcs⟩
  unfold getItem
  try with_reducible refine wpAny_holding ?_
  first | refine wpAny_bind (wpAny_pure ?_) | skip
  refine wpAny_bind (wpAny_sequenceKey ht.typeIs (by decide) ?_)
  refine wpAny_bind (wpAny_callSpecial?_slot (name := Str.ofString "__getitem__") ht.typeIs PyProof.Rows.slot_tuple_getitem
    (wpAny_call_entry PyProof.Rows.slot_tuple_getitem ht.typeIs entry_tuple_getitem ?_ (args_tuple_getitem _ _)))
  show wpAny _ _ (Builtin.Tuple.tupleItemsOf (.ref t) >>= _) _ _ s
  refine wpAny_bind (tupleItemsOf_ ht ?_)
  refine wpAny_bind (wpAny_typeOf hTs ?_)
  rw [if_pos (by decide)]
  refine wpAny_bind (sliceApplied_rev hs pl pu ps ?_)
  have hno : ¬ ((((items.size : Int) - 1) == 0 && (-1 : Int) == 1 && items.size == items.size) = true) := by
    rw [show ((-1 : Int) == 1) = false from rfl, Bool.and_false, Bool.false_and]
    exact Bool.false_ne_true
  show wpAny _ _ (if (((items.size : Int) - 1) == 0 && (-1 : Int) == 1 && items.size == items.size) = true then _ else _) _ _ s
  rw [if_neg hno, pick_rev]
  first
    | exact wpAny_bind (m := Builtin.Tuple.tupleExact _) (wpAny_newObj_type (wpAny_pure ⟨_, rfl, wpAny_pure h⟩) htake)
    | exact wpAny_bind (m := Builtin.Tuple.tupleExact _) (wpAny_newObj_type (wpAny_bind (wpAny_pure (wpAny_pure ⟨_, rfl, wpAny_pure h⟩))) htake)
    | exact wpAny_bind (wpAny_bind (m := Builtin.Tuple.tupleExact _) (wpAny_newObj_type (wpAny_pure (wpAny_pure ⟨_, rfl, wpAny_pure h⟩)) htake))
    | exact wpAny_bind (wpAny_bind (m := Builtin.Tuple.tupleExact _) (wpAny_newObj_type (wpAny_pure ⟨_, rfl, wpAny_pure h⟩) htake))
end
section
def rRevA (K : PySem.W.Frag) : V → Hp → VK → Prop := fun x H Q => (∃ a xs, x = .ref a ∧ SqL K H a xs ∧ ∀ p, H p = none → Q (.ref p) (upd H p (.lst xs.reverse))) ∨
  ∃ a xs, x = .ref a ∧ SqT K H a xs ∧ ∀ p, H p = none → Q (.ref p) (upd H p (.tup xs.reverse))
theorem pe_revA {X : Cx} {e : Expr} {te : TE} {k : Nat} {p1 p2 p3 pos : Pos} (he : PE X e te) : PE X (.Subscript e (.Slice none none (some (.UnaryOp .USub (.Constant (.int 1) k p1) p2)) p3) pos) (tUn (rRevA X.K) te) := by
  refine ⟨fun pins s σ H Q I h => ?_⟩
  refine Subscript_ (thn (he.run pins s σ H _ I h) fun v s1 ⟨x, H1, I1, r1, q1⟩ => ?_)
  have hst : PO X (some (.UnaryOp .USub (.Constant (.int 1) k p1) p2)) (tPart (tUn (rU fun i => .int (-i)) (tC (.int 1)))) := po_some (pe_un un_neg pe_int)
  refine wpAny_Slice (thn (po_none.run pins s1 σ H1 (fun o H2 => o = none ∧ H2 = H1) I1 ⟨rfl, rfl⟩) fun vl s2 ⟨l, H2, I2, pl, el, e2⟩ => ?_)
  subst el e2
  refine thn (po_none.run pins s2 σ H2 (fun o H3 => o = none ∧ H3 = H2) I2 ⟨rfl, rfl⟩) fun vu s3 ⟨u, H3, I3, pu, eu, e3⟩ => ?_
  subst eu e3
  refine thn (hst.run pins s3 σ H3 (fun o H4 => o = some (-1) ∧ H4 = H3) I3 ⟨1, rfl, -1, rfl, rfl, rfl⟩) fun vs s4 ⟨o, H4, I4, ps, eo, e4⟩ => ?_
  subst eo e4
  have I5 : Inv X pins σ H4 { s4 with heap := s4.heap.push { cls := .type "slice", data := .fields #[vl, vu, vs] } } := I4.kept (t' := s4.toks) fun b ob q => Heap.get?_push_of_some _ q
  rcases q1 with ⟨a, xs, ex, hx, q⟩ | ⟨a, xs, ex, hx, q⟩
  · subst ex
    cases r1
    obtain ⟨its, r, ht, hz⟩ := I5.list hx
    have hlen := r.length
    show wpAny (model X.prog X.w) X.A (subscriptTail e (.Slice none none (some (.UnaryOp .USub (.Constant (.int 1) k p1) p2)) p3) (.ref a) (.ref s4.heap.objs.size)) (EP X pins σ Q) X.xe { s4 with heap := s4.heap.push { cls := .type "slice", data := .fields #[vl, vu, vs] } }
    refine tail_any (ops := [.ref a, .ref s4.heap.objs.size]) ht.isList.typeIs (PySem.slot_list_getitem.lookup) ?_ (by with_unfolding_all rfl)
    refine wpAny_getItem_list_slice ht.isList (Heap.IsSliceOf.new _ vl vu vs) pl pu ps (by decide) ?_ (by rw [List.size_toArray]; omega)
    rw [PySem.W.krv_pick]
    refine ⟨.ref _, _, I5.laid (t' := s4.toks) (o := .lst xs.reverse) (fun b ob q => Heap.get?_push_of_some _ q) (Nat.le_refl _) ?_, rfl, q _ (I5.hok.fresh (Nat.le_refl _))⟩
    exact ⟨by rw [List.length_reverse]; exact hz, _, 0, r.reverse, Heap.get?_push_size _ rfl⟩
  · subst ex
    cases r1
    obtain ⟨its, r, ht, hz⟩ := I5.tuple hx
    have hlen := r.length
    show wpAny (model X.prog X.w) X.A (subscriptTail e (.Slice none none (some (.UnaryOp .USub (.Constant (.int 1) k p1) p2)) p3) (.ref a) (.ref s4.heap.objs.size)) (EP X pins σ Q) X.xe { s4 with heap := s4.heap.push { cls := .type "slice", data := .fields #[vl, vu, vs] } }
    refine tail_any (ops := [.ref a, .ref s4.heap.objs.size]) ht.typeIs (PyProof.Rows.slot_tuple_getitem.lookup) ?_ (by with_unfolding_all rfl)
    refine getItem_tuple_rev ht (Heap.IsSliceOf.new _ vl vu vs) pl pu ps ?_ (by rw [List.size_toArray]; omega)
    refine ⟨.ref _, _, I5.laid (t' := s4.toks) (o := .tup xs.reverse) (fun b ob q => Heap.get?_push_of_some _ q) (Nat.le_refl _) ?_, rfl, q _ (I5.hok.fresh (Nat.le_refl _))⟩
    exact ⟨by rw [List.length_reverse]; exact hz, _, r.reverse, IsTup.new _ _⟩
variable {B : Bs} {S : Type} [SI S] {X : Cx} {E : XK} {a : Expr} {fa : Ex S} {k : Nat} {p1 p2 p3 pos : Pos}
theorem RpL.rev {A : Addr → Prop} {H : Hp} : ∀ {xs : List V} {ds : List D}, RpL B A H xs ds → RpL B A H xs.reverse ds.reverse
  | _, _, .nil => .nil
  | _, _, .cons a t => by
    rw [List.reverse_cons, List.reverse_cons]
    exact (RpL.rev t).app (.cons a .nil)
theorem ud_rev : UnD B (rRevA B.K) opRev := by
  intro A N H x p z Q fr hz hx k
  cases p with
  | list ds =>
    cases hz
    obtain ⟨a, xs, rfl, h, r⟩ := rt_lst hx
    exact .inl ⟨a, xs, rfl, SqL.of h, fun p hp => k _ _ (same_upd hp) (new_lst hp (fr p hp) r.rev)⟩
  | tuple ds =>
    cases hz
    obtain ⟨a, xs, rfl, h, r⟩ := rt_tup hx
    exact .inr ⟨a, xs, rfl, h.sq, fun p hp => k _ _ (same_upd hp) (new_tup hp r.rev)⟩
  | _ => cases hz
theorem de_rev (hB : B.K = X.K) (ha : DB X B E a fa) : DE X B E (.Subscript a (.Slice none none (some (.UnaryOp .USub (.Constant (.int 1) k p1) p2)) p3) pos) (eUn opRev fa) := de_un ud_rev (by rw [hB]; exact pe_revA ha)
end
end DL
namespace DL
open PySem PySem.Spec PyProof.Rows L2
def scK : D → Option Key
  | .int i => some (.inl i)
  | .str x => some (.inr x)
  | _ => none
def dGetS (kvs : List (D × D)) (k : Key) : Option D := (kvs.find? fun p => decide (scK p.1 = some k)).map (·.2)
def dPutS (kvs : List (D × D)) (kd z : D) (k : Key) : List (D × D) :=
  if (kvs.any fun p => decide (scK p.1 = some k)) = true then kvs.map (fun p => if scK p.1 = some k then (p.1, z) else p) else kvs ++ [(kd, z)]
section
variable {B : Bs} {A : Addr → Prop} {H : Hp}
theorem sc_of {k : Key} {d : D} (h : Rp B A H (kV k) d) : scK d = some k := by
  cases k with
  | inl i => cases h; rfl
  | inr x => cases h; rfl
theorem sc_val {N : Addr → Prop} {y : V} {d : D} {k : Key} (h : RtV B A N H y (.d d)) (e : scK d = some k) : y = kV k := by
  cases d with
  | int i => cases e; exact rt_int h
  | str x => cases e; exact rt_str h
  | _ => cases e
theorem sc_rp {k : Key} {d : D} (e : scK d = some k) : Rp B A H (kV k) d := by
  cases d with
  | int i => cases e; exact .int i
  | str x => cases e; exact .str x
  | _ => cases e
theorem rpm_get : ∀ {ks : List (Key × V)} {kvs : List (D × D)} {k : Key} {z : D}, RpM B A H (ks.map fun p => (kV p.1, p.2)) kvs → dGetS kvs k = some z → ∃ v, valV ks k = some v ∧ Rp B A H v z
  | [], _, k, z, r, h => by
    rw [List.map_nil] at r
    cases r
    cases h
  | p :: ks, _, k, z, r, h => by
    rw [List.map_cons] at r
    cases r with
    | @cons _ _ kd d vs ds h1 h2 t =>
      have e1 := sc_of h1
      unfold dGetS at h
      rw [List.find?_cons] at h
      by_cases e : p.1 = k
      · have e2 : decide (scK kd = some k) = true := decide_eq_true (by rw [e1, e])
        simp only [e2] at h
        cases h
        exact ⟨_, valV_pos e, h2⟩
      · have e2 : decide (scK kd = some k) = false := decide_eq_false (by rw [e1]; exact fun z => e (Option.some.inj z))
        simp only [e2] at h
        obtain ⟨v, e3, r⟩ := rpm_get (k := k) (z := z) t h
        exact ⟨v, by rw [valV_neg e]; exact e3, r⟩
theorem rpm_any : ∀ {ks : List (Key × V)} {kvs : List (D × D)} {k : Key}, RpM B A H (ks.map fun p => (kV p.1, p.2)) kvs → (kvs.any fun p => decide (scK p.1 = some k)) = ks.any fun kv => decide (kv.1 = k)
  | [], _, k, r => by
    rw [List.map_nil] at r
    cases r
    rfl
  | p :: ks, _, k, r => by
    rw [List.map_cons] at r
    cases r with
    | cons h1 h2 t =>
      rw [List.any_cons, List.any_cons, rpm_any t, sc_of h1]
      simp
theorem rpm_upd : ∀ {ks : List (Key × V)} {kvs : List (D × D)} {k : Key} {v : V} {z : D}, RpM B A H (ks.map fun p => (kV p.1, p.2)) kvs → Rp B A H v z →
    RpM B A H ((ks.map fun kv => if kv.1 = k then (kv.1, v) else kv).map fun p => (kV p.1, p.2)) (kvs.map fun p => if scK p.1 = some k then (p.1, z) else p)
  | [], _, k, v, z, r, hv => by
    rw [List.map_nil] at r
    cases r
    exact .nil
  | p :: ks, _, k, v, z, r, hv => by
    rw [List.map_cons] at r
    cases r with
    | cons h1 h2 t =>
      have e1 := sc_of h1
      rw [List.map_cons, List.map_cons, List.map_cons]
      by_cases e : p.1 = k
      · rw [if_pos e, if_pos (by rw [e1, e])]
        exact .cons h1 hv (rpm_upd t hv)
      · rw [if_neg e, if_neg (by rw [e1]; exact fun z => e (Option.some.inj z))]
        exact .cons h1 h2 (rpm_upd t hv)
theorem RpM.app : ∀ {v v' : List (V × V)} {d d' : List (D × D)}, RpM B A H v d → RpM B A H v' d' → RpM B A H (v ++ v') (d ++ d')
  | _, _, _, _, .nil, h => h
  | _, _, _, _, .cons a b t, h => .cons a b (RpM.app t h)
theorem RpM.len : ∀ {v : List (V × V)} {d : List (D × D)}, RpM B A H v d → v.length = d.length
  | _, _, .nil => rfl
  | _, _, .cons _ _ t => by simp [RpM.len t]
theorem rpm_put {ks : List (Key × V)} {kvs : List (D × D)} {k : Key} {v : V} {kd z : D} (r : RpM B A H (ks.map fun p => (kV p.1, p.2)) kvs) (hk : scK kd = some k) (hv : Rp B A H v z) :
    RpM B A H ((putK ks k v).map fun p => (kV p.1, p.2)) (dPutS kvs kd z k) := by
  unfold putK dPutS
  rw [rpm_any r]
  split
  · exact rpm_upd r hv
  · rw [List.map_append]
    exact r.app (.cons (sc_rp hk) hv .nil)
/-- a dict with tuple keys has no scalar ones -/
theorem dn_scalar : ∀ {ks : List (NestedKey × Addr × V)} {kvs : List (D × D)}, RpM B A H (ks.map fun p => (V.ref p.2.1, p.2.2)) kvs → ∀ p ∈ kvs, scK p.1 = none
  | [], _, r, p, m => by
    rw [List.map_nil] at r
    cases r
    cases m
  | q :: ks, _, r, p, m => by
    rw [List.map_cons] at r
    cases r with
    | cons h1 h2 t =>
      rcases List.mem_cons.mp m with rfl | m
      · cases h1 <;> rfl
      · exact dn_scalar t p m
end
section
variable {S : Type} [SI S] {X : Cx} {B : Bs} {E : XK} {e ei o value : Expr} {f fi : Ex S} {pos p2 : Pos} {td ty tv : TE}
def sDPutR (B : Bs) (td ty tv : TE) : TS := fun D σ H => tv σ H fun v H1 => td σ H1 fun x H2 => ty σ H2 fun y H3 => ∃ a kvs k, x = .ref a ∧ y = kV k ∧ kvs.length < sizeLine ∧
  (H3 a = some (.dK kvs) ∨ (kvs = [] ∧ ∃ o, H3 a = some (dN B a (o, [])))) ∧ D.nx σ (upd H3 a (.dK (putK kvs k v)))
theorem re_dK {pins : List (Addr × Obj)} {σ : L2.St} {H : Hp} {s : Shared} {a : Addr} {ob0 : Obj} (I : Inv X pins σ H s) (h : H a = some (dN B a (ob0, []))) : Inv X pins σ (upd H a (.dK [])) s := by
  obtain ⟨⟨z, _, xs, hp, ob, es, ep, _, ho, hx, hd, he, _⟩, ⟨o, hg⟩, _⟩ := I.hok a _ h
  cases hp
  have h0 : es.toList = [] := by rw [he]; rfl
  have he0 : es = #[] := by
    have := congrArg List.toArray h0
    simpa using this
  subst he0
  refine I.write (t' := s.toks) (h' := s.heap) (by rw [h]; trivial) (.inl rfl) (fun _ _ _ q => q) ⟨_, hg⟩ ?_
  exact ⟨Nat.zero_le _, z, [], .nil, ob, #[], ep, ho, hx, hd, fun _ he => by simp at he, .nil, List.nodup_nil⟩
theorem ps_dputR (hu : X.A.units + 1 < cLine) (ho : PE X o td) (hi : PE X ei ty) (hv : PE X value tv) (hs : swapsWith value (some (.Subscript o ei p2)) pos.line X.env = pure false) :
    PS X (.Assign [.Subscript o ei p2] value pos) (sDPutR B td ty tv) := by
  refine ⟨fun pins s σ H D I h => ?_⟩
  refine wpAny_Assign_Subscript (thn (hv.run pins s σ H _ I h) fun r s1 ⟨v, H1, I1, rv, q1⟩ => thn (ho.run pins s1 σ H1 _ I1 q1) fun u s2 ⟨x, H2, I2, rx, q2⟩ => thn (hi.run pins s2 σ H2 _ I2 q2) fun iv s3 ⟨y, H3, I3, ry, a, kvs, k, ex, ey, hl, hd, q3⟩ => ?_) hs
  subst ex
  obtain rfl : u = Value.ref a := rx
  subst ey
  rcases hd with hd | ⟨rfl, ob0, hd⟩
  · exact d_setItem hu I3 (.k hd hl) ry rv fun s4 I4 => ⟨σ, _, I4, q3⟩
  · have I3' := re_dK (B := B) I3 hd
    refine d_setItem hu I3' (.k upd_same hl) ry rv fun s4 I4 => ⟨σ, _, ?_, q3⟩
    rw [upd_upd] at I4
    exact I4
/-- dict[k] = e -/
def sPutS (i : Nat) (fi f : Ex S) : Sx S := fun ρ s => (f ρ s).bind fun y s1 => match ρ[i]? with
  | some (.m kvs) => (fi ρ s1).bind fun k s2 => (match y, k with
    | .d z, .d kd => (match scK kd with
      | some kk => if kvs.length < sizeLine ∧ (kvs.all fun p => (scK p.1).isSome) = true then .ok (.nx (ρ.set i (.m (dPutS kvs kd z kk)))) s2 else .bad
      | none => .bad)
    | _, _ => .bad)
  | _ => .bad
theorem ds_putS (c : Ctx X B) (i : Nat) {x : Expr} (hv : PE X x (tVar i)) (hi : DB X B E ei fi) (h : DE X B E e f) (hs : swapsWith e (some (.Subscript x ei p2)) pos.line X.env = pure false := by rfl) : DS X B E (.Assign [.Subscript x ei p2] e pos) (sPutS i fi f) := by
  refine ps_imp (ps_dputR (B := B) (by have := c.un; omega) hv hi h hs) fun Dd σ H ⟨G, own, ρ, s, R, q⟩ => ?_
  unfold sPutS at q
  refine tD.run R _ q.bnd fun y s1 v H1 q1 k1 r1 R1 => ?_
  cases z : ρ[i]? with
  | none => rw [z] at q1; exact q1.elim
  | some x =>
    rw [z] at q1
    have p := R1.sl i x z
    cases x with
    | m kvs =>
      obtain ⟨a, ho, hs, p⟩ := p
      refine ⟨_, hs, ?_⟩
      refine tB.run R1 _ q1.bnd fun kk s2 u H2 q2 k2 r2 R2 => ?_
      have hd : a ∉ G.dks := fun z => (R.fre i a ho).2 (R.wf1 a z)
      have rv := r1.kp (R1.kp k2)
      cases y with
      | r _ => exact q2.elim
      | o _ _ => exact q2.elim
      | p _ => exact q2.elim
      | f _ => exact q2.elim
      | d d =>
        cases kk with
        | r _ => exact q2.elim
        | o _ _ => exact q2.elim
        | p _ => exact q2.elim
        | f _ => exact q2.elim
        | d kd =>
          dsimp only at q2
          cases hk : scK kd with
          | none => rw [hk] at q2; exact q2.elim
          | some k =>
            rw [hk] at q2
            dsimp only at q2
            split at q2
            · rename_i hc
              have ey := sc_val r2 hk
              have hAll : ∃ ks : List (Key × V), ks.length = kvs.length ∧ (H2 a = some (.dK ks) ∨ (ks = [] ∧ ∃ o, H2 a = some (dN B a (o, [])))) ∧ RpM B (Av G own) H2 (ks.map fun p => (kV p.1, p.2)) kvs := by
                rcases p with ⟨ks, hx, r⟩ | ⟨ks, hx, ek, r⟩
                · refine ⟨ks, ?_, .inl (k2.fr a _ hx hd), RpM.kp (R1.kp k2) r⟩
                  have := r.len
                  simpa using this
                · have h0 : kvs = [] := by
                    cases kvs with
                    | nil => rfl
                    | cons p t =>
                      have h1 := dn_scalar r p (.head _)
                      have h2 := hc.2
                      rw [List.all_cons, h1] at h2
                      cases h2
                  subst h0
                  obtain ⟨ob0, ks⟩ := ks
                  have hk0 : ks = [] := by
                    have := congrArg List.length ek
                    exact List.length_eq_zero_iff.mp (by simpa using this.symm)
                  subst hk0
                  exact ⟨[], rfl, .inr ⟨rfl, ob0, k2.fr a _ hx hd⟩, .nil⟩
              obtain ⟨ks, hlen, hx2, r'⟩ := hAll
              have kp : Kp (Av G own) H2 (upd H2 a (.dK (putK ks k v))) := by
                refine ⟨fun b ys ht h => ?_, fun b u h n => ?_⟩
                · rw [upd_ne]
                  · exact h
                  · rintro rfl
                    rcases hx2 with hx2 | ⟨_, _, hx2⟩ <;> rw [hx2] at h <;> cases h <;> cases ht
                · rw [upd_ne]
                  · exact h
                  · rintro rfl; exact n (.inr ⟨i, ho⟩)
              obtain ⟨R3, g3⟩ := R2.chg (x := .m (dPutS kvs kd d k)) (o := .dK (putK ks k v)) ho hs rfl (.inl ⟨_, upd_same, RpM.kp kp (rpm_put r' hk rv)⟩)
              exact ⟨a, ks, k, rfl, ey, by rw [hlen]; exact hc.1, hx2, q2 own σ _ R3 ((Gone.of_stp (k1.trans k2)).trans R2 g3)⟩
            · exact q2.elim
    | _ => exact q1.elim
/-- dict[k] -/
def opDIx : D → D → Option D
  | .dict kvs, kd => (match scK kd with
    | some k => dGetS kvs k
    | none => none)
  | _, _ => none
theorem rt_dic {A N : Addr → Prop} {H : Hp} {x : V} {kvs : List (D × D)} (h : RtV B A N H x (.d (.dict kvs))) : ∃ a, x = .ref a ∧ ((∃ ks : List (Key × V), H a = some (.dK ks) ∧ RpM B A H (ks.map fun p => (kV p.1, p.2)) kvs) ∨
    ∃ ks : NL, H a = some (dN B a ks) ∧ kvs.map (fun p => keyD p.1) = ks.2.map (fun p => some p.1) ∧ RpM B A H (ks.2.map fun p => (V.ref p.2.1, p.2.2)) kvs) := by
  cases h with
  | of h =>
    cases h with
    | dic h n r => exact ⟨_, rfl, .inl ⟨_, h, r⟩⟩
    | dct h n e r => exact ⟨_, rfl, .inr ⟨_, h, e, r⟩⟩
  | dic h n r => exact ⟨_, rfl, .inl ⟨_, h, r⟩⟩
  | dct h n e r => exact ⟨_, rfl, .inr ⟨_, h, e, r⟩⟩
theorem od_dix : OpD B (fun x y H Q => ∃ a v, x = .ref a ∧ DGet H a y (some v) ∧ Q v H) opDIx := by
  intro A N H x y p q z Q fr hz hx hy k
  cases p with
  | dict kvs =>
    simp only [opDIx] at hz
    cases hk : scK q with
    | none => rw [hk] at hz; cases hz
    | some kk =>
      rw [hk] at hz
      have hz : dGetS kvs kk = some z := hz
      have ey := sc_val hy hk
      obtain ⟨a, rfl, h⟩ := rt_dic hx
      rcases h with ⟨ks, ha, r⟩ | ⟨ks, ha, e, r⟩
      · obtain ⟨v, e1, r1⟩ := rpm_get r hz
        refine ⟨a, v, rfl, ?_, k v H (Same.refl H) r1⟩
        rw [ey, ← e1]
        exact .k ha
      · exfalso
        unfold dGetS at hz
        cases hf : kvs.find? fun p => decide (scK p.1 = some kk) with
        | none => rw [hf] at hz; cases hz
        | some p =>
          have h1 := List.find?_some hf
          have h2 := dn_scalar r p (List.mem_of_find?_eq_some hf)
          rw [h2] at h1
          cases h1
  | _ => simp [opDIx] at hz
theorem de_dix {a b : Expr} {fa fb : Ex S} (c : Ctx X B) (ha : DB X B E a fa) (hb : DB X B E b fb) (hs : NoSl b := by intro _ _; rfl) : DE X B E (.Subscript a b pos) (eBin opDIx fa fb) :=
  de_bin od_dix (pe_dget (by have := c.un; omega) ha hb hs)
def nDisp (ks : List Str) (g : Exs S) : Nx S := fun ρ s => (g ρ s).bind fun ys s1 => match datas ys with
  | some ds => if ks.Nodup ∧ ds.length = ks.length ∧ ks.length ≤ 15 then .ok (.m ((ks.map PyData.str).zip ds)) s1 else .bad
  | none => .bad
def exsOf : List (Ex S) → Exs S
  | [] => aNil
  | f :: fs => aCons f (exsOf fs)
theorem pairs_of : ∀ {ks : List Str} {fs : List (Ex S)} {G : Gh} {own : Own} {ρ : Env} {s : S} {σ : Sg} {H : Hp} {Q : List (V × V) → Hp → Prop}, ks.length = fs.length → Rel B G own ρ s σ H →
    (exsOf fs ρ s).sat (fun ys s' => ∀ vs H', Stp G s' H H' → RvL B (Av G own) H' vs ys → Q ((ks.map V.str).zip vs) H') (fun e s' => ExW B G E e s') →
    tPairs ((ks.zip fs).map fun p => (tC (.str p.1), tD B E p.2)) σ H Q
  | [], [], G, own, ρ, s, σ, H, Q, _, R, q => q [] H R.refl .nil
  | k :: ks, f :: fs, G, own, ρ, s, σ, H, Q, hl, R, q => by
    refine tD.run R _ q.bnd fun y s1 v H1 q1 k1 r1 R1 => ?_
    refine pairs_of (Q := fun ps H3 => Q ((V.str k, v) :: ps) H3) (by simpa using hl) R1 ?_
    refine q1.bnd.mono fun ys s2 q2 vs H2 k2 r2 => ?_
    exact q2 (v :: vs) H2 (k1.trans k2) (.cons (r1.kp (R1.kp k2)) r2)
  | [], _ :: _, _, _, _, _, _, _, _, hl, _, _ => by simp at hl
  | _ :: _, [], _, _, _, _, _, _, _, hl, _, _ => by simp at hl
theorem merge_new : ∀ (ks : List (Key × V)) (acc : List (Key × V)), ((acc ++ ks).map (·.1)).Nodup → mergeK acc ks = acc ++ ks
  | [], acc, _ => by simp [mergeK]
  | p :: ks, acc, h => by
    show mergeK (putK acc p.1 p.2) ks = _
    have hn : valV acc p.1 = none := by
      cases e : valV acc p.1 with
      | none => rfl
      | some v =>
        have m := valV_in e
        rw [List.map_append, List.nodup_append] at h
        exact absurd rfl (h.2.2 _ m p.1 (by simp))
    rw [putK_new _ hn, merge_new ks (acc ++ [(p.1, p.2)]) (by simpa using h)]
    simp
theorem rpm_zip {A : Addr → Prop} {H : Hp} : ∀ {ks : List Str} {vs : List V} {ds : List D}, RpL B A H vs ds → vs.length = ks.length → RpM B A H ((((ks.map (Sum.inr : Str → Key)).zip vs)).map fun p => (kV p.1, p.2)) ((ks.map PyData.str).zip ds)
  | [], _, _, _, _ => .nil
  | k :: ks, _, _, .nil, h => by simp at h
  | k :: ks, _, _, .cons a t, h => .cons (.str k) a (rpm_zip t (by simpa using h))
theorem zip_str : ∀ (ks : List Str) (vs : List V), (ks.map V.str).zip vs = ((ks.map (Sum.inr : Str → Key)).zip vs).map fun kv => (kV kv.1, kv.2)
  | [], _ => rfl
  | k :: ks, [] => rfl
  | k :: ks, v :: vs => by
    rw [List.map_cons, List.zip_cons_cons, zip_str ks vs]
    rfl
theorem dn_disp {keys : List (Option Expr)} {values : List Expr} (ks : List Str) (fs : List (Ex S)) (hp : PPs X pos keys values ((ks.zip fs).map fun p => (tC (.str p.1), tD B E p.2))) (hl : ks.length = fs.length) (hall : keys.all (·.isSome) = true := by rfl) (hlk : keys.length = values.length := by rfl)
    (h0 : keys ≠ [] := by simp) (h15 : keys.length ≤ 15 := by decide) : DN X B E (.Dict keys values pos) (nDisp ks (exsOf fs)) := by
  refine pe_imp (pe_disp hp hall hlk h0 h15) fun σ H Q ⟨G, own, ρ, s, R, q⟩ => fun p hn => ?_
  have k0 : Stp G s H (upd H p (.dK [])) := R.put hn
  have Rh := R.hid k0 hn (by rw [upd_same]; simp)
  refine pairs_of hl Rh ?_
  refine sat_ex (q.bnd.mono fun ys s1 q1 vs H1 k1 r1 => ?_) fun e s' h => h.hide
  cases hd : datas ys with
  | none => rw [hd] at q1; exact q1.elim
  | some ds =>
    rw [hd] at q1
    dsimp only at q1
    split at q1
    · rename_i hc
      have rl := r1.datas hd
      have hpd : p ∉ G.dks := fun z => by
        obtain ⟨o, e, _⟩ := R.dkT z
        rw [hn] at e; cases e
      have hp1 : H1 p = some (.dK []) := k1.fr p _ upd_same hpd
      have hvl : vs.length = ks.length := by rw [rl.len]; exact hc.2.1
      refine ⟨hp1, (ks.map (Sum.inr : Str → Key)).zip vs, zip_str ks vs, ?_, ?_⟩
      · rw [List.length_zip, List.length_map]; omega
      · have hm : mergeK [] ((ks.map (Sum.inr : Str → Key)).zip vs) = (ks.map (Sum.inr : Str → Key)).zip vs := by
          rw [merge_new _ [] ?_, List.nil_append]
          rw [List.nil_append, List.map_fst_zip (by rw [List.length_map]; omega)]
          exact List.Pairwise.map _ (fun a b h e => h (Sum.inr.inj e)) hc.1
        rw [hm]
        have kp : Kp (fun a => Av G own a ∨ a = p) H1 (upd H1 p (.dK ((ks.map (Sum.inr : Str → Key)).zip vs))) := by
          refine ⟨fun b ys ht h => ?_, fun b u h n => ?_⟩
          · rw [upd_ne]
            · exact h
            · rintro rfl; rw [hp1] at h; cases h; cases ht
          · rw [upd_ne]
            · exact h
            · rintro rfl; exact n (.inr rfl)
        have rl2 : RpL B (fun a => Av G own a ∨ a = p) H1 vs ds := rl.mono fun a z => by
          rcases z with z | rfl
          · exact (av_hide a).mpr (.inl z)
          · exact (av_hide a).mpr (.inr (by simp))
        refine q1 p _ ?_ hn (.inl ⟨_, upd_same, rpm_zip (RpL.kp kp rl2) hvl⟩)
        refine ⟨fun b o h n => ?_, k1.dk, SI.keep s1 H1 _ k1.rs (fun b hb => ?_) kp.tup⟩
        · rw [upd_ne]
          · exact k1.fr b o (by rw [upd_ne]; exact h; rintro rfl; rw [hn] at h; cases h) n
          · rintro rfl; rw [hn] at h; cases h
        · rw [upd_ne]
          rintro rfl
          have e := k1.dk
          rw [e] at hb
          exact hpd hb
    · exact q1.elim
end
end DL
namespace DL
open PySem PySem.Spec PySem.Calls PySem.W PyProof.Rows L2
end DL
namespace DL
open PySem PySem.Spec PySem.Calls PySem.W PyProof.Rows L2
mutual
/-- the value v is the key k -/
inductive NK (K : PySem.W.Frag) (H : Hp) : V → NestedKey → Prop
  | non : NK K H .non .none
  | bl (b : Bool) : NK K H (.bl b) (.num (if b then 1 else 0))
  | int (i : Int) : NK K H (.int i) (.num i)
  | str (x : Str) : NK K H (.str x) (.text x)
  | tup {a : Addr} {xs : List V} {ks : List NestedKey} (h : Tp K H a xs) (r : NKs K H xs ks) : NK K H (.ref a) (.tup ks)
inductive NKs (K : PySem.W.Frag) (H : Hp) : List V → List NestedKey → Prop
  | nil : NKs K H [] []
  | cons {v : V} {k : NestedKey} {vs : List V} {ks : List NestedKey} (h : NK K H v k) (t : NKs K H vs ks) : NKs K H (v :: vs) (k :: ks)
end
section
variable {B : Bs} {A : Addr → Prop} {H : Hp}
mutual
theorem rp_nk : ∀ {v : V} {d : D} {k : NestedKey}, Rp B A H v d → keyD d = some k → NK B.K H v k
  | _, _, _, .non, e => by cases e; exact .non
  | _, _, _, .bl b, e => by
    simp only [keyD] at e
    cases e
    exact .bl b
  | _, _, _, .int i, e => by cases e; exact .int i
  | _, _, _, .str x, e => by cases e; exact .str x
  | _, _, _, .tup h r, e => by
    simp only [keyD, Option.map_eq_some_iff] at e
    obtain ⟨ks, e, rfl⟩ := e
    exact .tup h (rp_nks r e)
  | _, _, _, .lst .., e => by simp [keyD] at e
  | _, _, _, .dic .., e => by simp [keyD] at e
  | _, _, _, .dct .., e => by simp [keyD] at e
theorem rp_nks : ∀ {vs : List V} {ds : List D} {ks : List NestedKey}, RpL B A H vs ds → keyD.keyDs ds = some ks → NKs B.K H vs ks
  | _, _, _, .nil, e => by
    simp only [keyD.keyDs] at e
    cases e
    exact .nil
  | _, _, _, .cons (d := d) h t, e => by
    unfold keyD.keyDs at e
    split at e
    · rename_i k ks e1 e2
      cases e
      exact .cons (rp_nk h e1) (rp_nks t e2)
    · cases e
end
end
section
variable {X : Cx} {pins : List (Addr × Obj)} {σ : L2.St} {H : Hp} {s : Shared}
mutual
theorem NK.is (I : Inv X pins σ H s) : ∀ {v : V} {k : NestedKey} {u : Value}, NK X.K H v k → RelV v u → NestedIs s.heap k u
  | _, _, _, .non, r => by cases r; exact .none
  | _, _, _, .bl b, r => by cases r; exact .bool rfl
  | _, _, _, .int i, r => by obtain ⟨t, rfl⟩ := r; exact .int i t
  | _, _, _, .str x, r => by obtain ⟨t, rfl⟩ := r; exact .text x t
  | _, _, _, .tup h t, r => by
    cases r
    obtain ⟨its, rv, ⟨o, ho, hc, n, hd⟩, _⟩ := I.tuple h.sq
    exact .tup ho hc hd (NKs.all I t rv)
theorem NKs.all (I : Inv X pins σ H s) : ∀ {vs : List V} {ks : List NestedKey} {us : List Value}, NKs X.K H vs ks → Vals vs us → NestedAll s.heap ks us
  | _, _, _, .nil, r => by cases r; exact .nil
  | _, _, _, .cons h t, r => by
    cases r with
    | cons r rs => exact .cons (NK.is I h r) (NKs.all I t rs)
end
end
/-- at a stands a dict with these keys and values -/
structure DctN (B : Bs) (H : Hp) (a : Addr) (ks : List (NestedKey × Addr × V)) : Prop where
  at_ : (∃ o, H a = some (dN B a (o, ks))) ∨ (ks = [] ∧ H a = some (.dK []))
  key : ∀ p ∈ ks, NK B.K H (.ref p.2.1) p.1 ∧ p.1.depth ≤ 8
def atV (ks : List (NestedKey × Addr × V)) (k : NestedKey) : Option V := (ks.find? fun p => decide (p.1 = k)).map (·.2.2)
def putV (ks : List (NestedKey × Addr × V)) (k : NestedKey) (b : Addr) (v : V) : List (NestedKey × Addr × V) :=
  if (atV ks k).isSome then ks.map (fun p => if p.1 = k then (p.1, p.2.1, v) else p) else ks ++ [(k, b, v)]
abbrev PV (p : NestedKey × Addr × V) (q : NestedKey × Addr × Value) : Prop := p.1 = q.1 ∧ p.2.1 = q.2.1 ∧ RelV p.2.2 q.2.2
theorem pv_at : ∀ {ks : List (NestedKey × Addr × V)} {xs : List (NestedKey × Addr × Value)} (k : NestedKey), Paired PV ks xs → (∀ v, atV ks k = some v → ∃ b u, atKey xs k = some (b, u) ∧ RelV v u) ∧ (atV ks k = none → atKey xs k = none)
  | _, _, k, .nil => ⟨fun v h => (by cases h), fun _ => rfl⟩
  | _, _, k, .cons (a := p) (b := q) h t => by
    obtain ⟨e1, e2, e3⟩ := h
    obtain ⟨i1, i2⟩ := pv_at k t
    unfold atV atKey at *
    by_cases hk : p.1 = k
    · have hq : q.1 = k := e1 ▸ hk
      rw [List.find?_cons_of_pos (by simpa using hk), List.find?_cons_of_pos (by simpa using hq)]
      exact ⟨fun v hv => by cases hv; exact ⟨_, _, rfl, e3⟩, fun h => by cases h⟩
    · have hq : ¬ q.1 = k := fun z => hk (e1.trans z)
      rw [List.find?_cons_of_neg (by simpa using hk), List.find?_cons_of_neg (by simpa using hq)]
      exact ⟨i1, i2⟩
section
variable {X : Cx} {B : Bs} {pins : List (Addr × Obj)} {σ : L2.St} {H : Hp} {s : Shared}
theorem DctN.get (c : Ctx X B) (I : Inv X pins σ H s) {a : Addr} {ks : List (NestedKey × Addr × V)} (h : DctN B H a ks) : ∃ xs, Paired PV ks xs ∧ s.heap.DictOfH (nestedKind X.prog X.w) a xs ∧ (a == sysModules) = false ∧ ks.length ≤ sizeLine := by
  rcases h.at_ with ⟨_, hat⟩ | ⟨rfl, hat⟩
  case inr =>
    obtain ⟨_, z, vs, rel, o, es, ep, ho, hx, hd, _, he, _⟩ := I.hok a _ hat
    cases rel
    have he0 : es.toList = [] := by
      generalize es.toList = l at he
      cases he
      rfl
    exact ⟨[], .nil, ⟨o, es, ep, ho, hx, hd, he0, fun x hx => (by cases hx), List.nodup_nil⟩, z, Nat.zero_le _⟩
  obtain ⟨⟨z, hl, xs, hp, o, es, ep, _, ho, hx, hd, he, hn⟩, _⟩ := I.hok a _ hat
  rw [c.hP, c.hw] at he
  refine ⟨xs, hp, ⟨o, es, ep, ho, hx, hd, he, fun x hx => ?_, hn⟩, z, hl⟩
  have key : ∀ {ks : List (NestedKey × Addr × V)} {xs : List (NestedKey × Addr × Value)}, Paired PV ks xs → (∀ p ∈ ks, NK B.K H (.ref p.2.1) p.1 ∧ p.1.depth ≤ 8) → ∀ x ∈ xs, NestedIs s.heap x.1 (.ref x.2.1) ∧ x.1.depth ≤ 8 := by
    intro ks xs hp
    induction hp with
    | nil => intro _ x hx; cases hx
    | cons h t ih =>
      intro hk x hx
      rcases List.mem_cons.mp hx with rfl | hx
      · obtain ⟨e1, e2, e3⟩ := h
        have := hk _ (.head _)
        rw [e1, e2, c.hK] at this
        exact ⟨NK.is I this.1 rfl, this.2⟩
      · exact ih (fun p m => hk p (.tail _ m)) x hx
  exact key hp h.key x hx
end
/-- k in d, k not in d -/
def rInN (B : Bs) (neg : Bool) : R2 := fun x y H Q => ∃ b a ks k, x = .ref b ∧ y = .ref a ∧ DctN B H a ks ∧ NK B.K H (.ref b) k ∧ k.depth ≤ 8 ∧ Q (.bl (if neg then !(atV ks k).isSome else (atV ks k).isSome)) H
theorem op_notInN {X : Cx} {B : Bs} (c : Ctx X B) : OpR X (compareOp .NotIn) (rInN B true) := by
  intro pins s σ H x y v u Q I rx ry h
  obtain ⟨b, a, ks, k, rfl, rfl, hd, hk, hdp, q⟩ := h
  cases rx
  cases ry
  obtain ⟨xs, hp, hm, hz, _⟩ := hd.get c I
  rw [c.hK] at hk
  show wpAny _ _ (do return Value.bool (!(← contains (.ref a) (.ref b)))) _ _ s
  refine wpAny_bind (wpAny_contains_heap (knd := nestedKind X.prog X.w) (by show X.A.units + 1 + 8 < cLine; have := c.un; omega) ⟨NK.is I hk rfl, hdp⟩ hz hm (wpAny_pure ?_))
  have e : (atKey xs k).isSome = (atV ks k).isSome := by
    obtain ⟨h1, h2⟩ := pv_at k hp
    cases ha : atV ks k with
    | none => rw [h2 ha]; rfl
    | some v => obtain ⟨b, u, e, _⟩ := h1 v ha; rw [e]; rfl
  rw [e]
  exact ⟨.bl _, H, I.tok _, rfl, q⟩
/-- d[k] = e -/
theorem pv_put {ks : List (NestedKey × Addr × V)} {xs : List (NestedKey × Addr × Value)} (hp : Paired PV ks xs) (k : NestedKey) (b : Addr) {v : V} {u : Value} (r : RelV v u) : Paired PV (putV ks k b v) (storedH xs k b u) := by
  have e : (atKey xs k).isSome = (atV ks k).isSome := by
    obtain ⟨h1, h2⟩ := pv_at k hp
    cases ha : atV ks k with
    | none => rw [h2 ha]; rfl
    | some v => obtain ⟨b, u, e, _⟩ := h1 v ha; rw [e]; rfl
  unfold putV storedH
  rw [e]
  split
  · clear e
    rename_i h
    clear h
    induction hp with
    | nil => exact .nil
    | cons h t ih =>
      rename_i p q _ _
      refine .cons ?_ ih
      obtain ⟨e1, e2, e3⟩ := h
      unfold putAt
      dsimp only
      by_cases hk : p.1 = k
      · rw [if_pos hk, if_pos (e1 ▸ hk)]; exact ⟨e1, e2, r⟩
      · rw [if_neg hk, if_neg (fun z => hk (e1.trans z))]; exact ⟨e1, e2, e3⟩
  · clear e
    rename_i h
    clear h
    induction hp with
    | nil => exact .cons ⟨rfl, rfl, r⟩ .nil
    | cons h t ih => exact .cons h ih
theorem putV_len (ks : List (NestedKey × Addr × V)) (k : NestedKey) (b : Addr) (v : V) : (putV ks k b v).length ≤ ks.length + 1 := by
  unfold putV
  split
  · rw [List.length_map]; exact Nat.le_succ _
  · rw [List.length_append]; exact Nat.le_refl _
def sDPutN (B : Bs) (td ty tv : TE) : TS := fun D σ H => tv σ H fun v H1 => td σ H1 fun x H2 => ty σ H2 fun y H3 => ∃ b a ks k, x = .ref a ∧ y = .ref b ∧ DctN B H3 a ks ∧ NK B.K H3 (.ref b) k ∧ k.depth ≤ 8 ∧ ks.length < sizeLine ∧
  ∀ o, D.nx σ (upd H3 a (dN B a (o, putV ks k b v)))
theorem ps_dputN {X : Cx} {B : Bs} {o ei value : Expr} {td ty tv : TE} {pos p2 : Pos} (c : Ctx X B) (ho : PE X o td) (hi : PE X ei ty) (hv : PE X value tv) (hs : swapsWith value (some (.Subscript o ei p2)) pos.line X.env = pure false) :
    PS X (.Assign [.Subscript o ei p2] value pos) (sDPutN B td ty tv) := by
  refine ⟨fun pins s σ H D I h => ?_⟩
  refine wpAny_Assign_Subscript (thn (hv.run pins s σ H _ I h) fun r s1 ⟨v, H1, I1, rv, q1⟩ => thn (ho.run pins s1 σ H1 _ I1 q1) fun u s2 ⟨x, H2, I2, rx, q2⟩ => thn (hi.run pins s2 σ H2 _ I2 q2) fun iv s3 ⟨y, H3, I3, ry, b, a, ks, k, ex, ey, hd, hk, hdp, hl, q3⟩ => ?_) hs
  subst ex ey
  obtain rfl : u = Value.ref a := rx
  obtain rfl : iv = Value.ref b := ry
  obtain ⟨xs, hp, hm, hz, hl2⟩ := hd.get c I3
  rw [c.hK] at hk
  have hlx : xs.length = ks.length := (Paired.length hp).symm
  refine wpAny_setItem_heap (knd := nestedKind X.prog X.w) (hsz := by rw [hlx]; exact hl2) (by show X.A.units + 1 + 8 < cLine; have := c.un; omega) ⟨NK.is I3 hk rfl, hdp⟩ hm fun h' hm' hsb => ?_
  obtain ⟨o', es, ep, ho', hx', hd', he', _, hn'⟩ := hm'
  refine ⟨σ, _, d_write (t' := s3.toks + (nestedKind X.prog X.w).draws k) I3 ?_ hsb ⟨_, ho'⟩ ?_, q3 o'⟩
  · rcases hd.at_ with ⟨_, e⟩ | ⟨_, e⟩ <;> rw [e] <;> trivial
  · refine ⟨⟨hz, by have := putV_len ks k b v; show (putV ks k b v).length ≤ sizeLine; omega, storedH xs k b r, pv_put hp k b rv, o', es, ep, rfl, ho', hx', hd', by rw [c.hP, c.hw]; exact he', hn'⟩, ⟨o', ho'⟩, fun h1 h2 pr k2 => ?_⟩
    obtain ⟨z, l, xs, pp, o, es, ep, eo, ho, r⟩ := pr
    exact ⟨z, l, xs, pp, o, es, ep, eo, k2 _ ho, r⟩
def tupKey (d : D) : Option NestedKey := match d with
  | .tuple _ => (match keyD d with
    | some k => if k.depth ≤ 8 then some k else none
    | none => none)
  | _ => none
theorem tupKey_some {d : D} {k : NestedKey} (h : tupKey d = some k) : keyD d = some k ∧ k.depth ≤ 8 ∧ ∃ ds, d = .tuple ds := by
  unfold tupKey at h
  split at h
  · split at h
    · rename_i e
      split at h
      · cases h; exact ⟨e, by assumption, _, rfl⟩
      · cases h
    · cases h
  · cases h
def allN (kvs : List (D × D)) : Bool := kvs.all fun p => (tupKey p.1).isSome
def dGetN (kvs : List (D × D)) (k : NestedKey) : Option D := (kvs.find? fun p => decide (keyD p.1 = some k)).map (·.2)
def dPutN (kvs : List (D × D)) (kd z : D) (k : NestedKey) : List (D × D) :=
  if (dGetN kvs k).isSome then kvs.map (fun p => if keyD p.1 = some k then (p.1, z) else p) else kvs ++ [(kd, z)]
section
variable {B : Bs} {A : Addr → Prop} {H : Hp}
/-- how a dict with tuple keys stands for pairs of data -/
def RN (B : Bs) (A : Addr → Prop) (H : Hp) (ks : List (NestedKey × Addr × V)) (kvs : List (D × D)) : Prop := kvs.map (fun p => keyD p.1) = ks.map (fun p => some p.1) ∧ RpM B A H (ks.map fun p => (V.ref p.2.1, p.2.2)) kvs
theorem RN.nil : RN B A H [] [] := ⟨rfl, .nil⟩
theorem rn_cons {p : NestedKey × Addr × V} {q : D × D} {ks : List (NestedKey × Addr × V)} {kvs : List (D × D)} : RN B A H (p :: ks) (q :: kvs) ↔ (keyD q.1 = some p.1 ∧ Rp B A H (.ref p.2.1) q.1 ∧ Rp B A H p.2.2 q.2) ∧ RN B A H ks kvs := by
  constructor
  · rintro ⟨e, r⟩
    rw [List.map_cons, List.map_cons] at e
    injection e with e1 e2
    rw [List.map_cons] at r
    cases r with
    | cons h1 h2 t => exact ⟨⟨e1, h1, h2⟩, e2, t⟩
  · rintro ⟨⟨e1, h1, h2⟩, e2, t⟩
    exact ⟨by rw [List.map_cons, List.map_cons, e1, e2], .cons h1 h2 t⟩
theorem RN.len {ks : List (NestedKey × Addr × V)} {kvs : List (D × D)} (h : RN B A H ks kvs) : kvs.length = ks.length := by
  have := congrArg List.length h.1
  simpa using this
theorem RN.kp {H' : Hp} (k : Kp A H H') {ks : List (NestedKey × Addr × V)} {kvs : List (D × D)} (h : RN B A H ks kvs) : RN B A H' ks kvs := ⟨h.1, RpM.kp k h.2⟩
theorem rn_ind {P : List (NestedKey × Addr × V) → List (D × D) → Prop} (h0 : P [] []) (h1 : ∀ p q ks kvs, keyD q.1 = some p.1 → Rp B A H (.ref p.2.1) q.1 → Rp B A H p.2.2 q.2 → RN B A H ks kvs → P ks kvs → P (p :: ks) (q :: kvs)) : ∀ {ks : List (NestedKey × Addr × V)} {kvs : List (D × D)}, RN B A H ks kvs → P ks kvs
  | [], [], _ => h0
  | [], _ :: _, h => by have := h.len; simp at this
  | _ :: _, [], h => by have := h.len; simp at this
  | p :: ks, q :: kvs, h => by
    obtain ⟨⟨a, b, c⟩, t⟩ := rn_cons.mp h
    exact h1 p q ks kvs a b c t (rn_ind h0 h1 t)
theorem rn_get {ks : List (NestedKey × Addr × V)} {kvs : List (D × D)} (h : RN B A H ks kvs) (k : NestedKey) : (∀ z, dGetN kvs k = some z → ∃ v, atV ks k = some v ∧ Rp B A H v z) ∧ (dGetN kvs k = none → atV ks k = none) := by
  refine rn_ind (P := fun ks kvs => (∀ z, dGetN kvs k = some z → ∃ v, atV ks k = some v ∧ Rp B A H v z) ∧ (dGetN kvs k = none → atV ks k = none)) ⟨fun z h => (by cases h), fun _ => rfl⟩ (fun p q ks kvs e r1 r2 t ih => ?_) h
  unfold dGetN atV at *
  by_cases hk : p.1 = k
  · have hq : keyD q.1 = some k := by rw [e, hk]
    rw [List.find?_cons_of_pos (by simpa using hq), List.find?_cons_of_pos (by simpa using hk)]
    exact ⟨fun z hz => (by cases hz; exact ⟨_, rfl, r2⟩), fun h => (by cases h)⟩
  · have hq : ¬ keyD q.1 = some k := fun z => hk (by rw [e] at z; exact Option.some.inj z)
    rw [List.find?_cons_of_neg (by simpa using hq), List.find?_cons_of_neg (by simpa using hk)]
    exact ih
theorem rn_some {ks : List (NestedKey × Addr × V)} {kvs : List (D × D)} (h : RN B A H ks kvs) (k : NestedKey) : (atV ks k).isSome = (dGetN kvs k).isSome := by
  obtain ⟨h1, h2⟩ := rn_get h k
  cases e : dGetN kvs k with
  | none => rw [h2 e]; rfl
  | some z => obtain ⟨v, e, _⟩ := h1 z e; rw [e]; rfl
theorem rn_put {ks : List (NestedKey × Addr × V)} {kvs : List (D × D)} (h : RN B A H ks kvs) {k : NestedKey} {kd z : D} {b : Addr} {v : V} (hk : keyD kd = some k) (hb : Rp B A H (.ref b) kd) (hv : Rp B A H v z) : RN B A H (putV ks k b v) (dPutN kvs kd z k) := by
  have e := rn_some h k
  unfold putV dPutN
  rw [e]
  split
  · clear e
    refine rn_ind (P := fun ks kvs => RN B A H (ks.map fun p => if p.1 = k then (p.1, p.2.1, v) else p) (kvs.map fun p => if keyD p.1 = some k then (p.1, z) else p)) RN.nil (fun p q ks kvs e r1 r2 t ih => ?_) h
    rw [List.map_cons, List.map_cons]
    refine rn_cons.mpr ⟨?_, ih⟩
    by_cases hk : p.1 = k
    · rw [if_pos hk, if_pos (by rw [e, hk])]; exact ⟨e, r1, hv⟩
    · rw [if_neg hk, if_neg (fun z => hk (by rw [e] at z; exact Option.some.inj z))]; exact ⟨e, r1, r2⟩
  · clear e
    refine rn_ind (P := fun ks kvs => RN B A H (ks ++ [(k, b, v)]) (kvs ++ [(kd, z)])) (rn_cons.mpr ⟨⟨hk, hb, hv⟩, RN.nil⟩) (fun p q ks kvs e r1 r2 t ih => rn_cons.mpr ⟨⟨e, r1, r2⟩, ih⟩) h
theorem rn_keys {ks : List (NestedKey × Addr × V)} {kvs : List (D × D)} (h : RN B A H ks kvs) (ha : allN kvs = true) : ∀ p ∈ ks, NK B.K H (.ref p.2.1) p.1 ∧ p.1.depth ≤ 8 := by
  revert ha
  refine rn_ind (P := fun ks kvs => allN kvs = true → ∀ p ∈ ks, NK B.K H (.ref p.2.1) p.1 ∧ p.1.depth ≤ 8) (fun _ p m => (by cases m)) (fun p q ks kvs e r1 r2 t ih ha x m => ?_) h
  unfold allN at ha ih
  rw [List.all_cons, Bool.and_eq_true] at ha
  rcases List.mem_cons.mp m with rfl | m
  · obtain ⟨k, hk⟩ := Option.isSome_iff_exists.mp ha.1
    obtain ⟨h1, h2, _⟩ := tupKey_some hk
    rw [e] at h1
    cases h1
    exact ⟨rp_nk r1 e, h2⟩
  · exact ih ha.2 x m
/-- a dict with tuple keys alone stands as one -/
theorem to_dct {a : Addr} {kvs : List (D × D)} (h : (∃ ks : List (Key × V), H a = some (.dK ks) ∧ RpM B A H (ks.map fun p => (kV p.1, p.2)) kvs) ∨ ∃ ks : NL, H a = some (dN B a ks) ∧ kvs.map (fun p => keyD p.1) = ks.2.map (fun p => some p.1) ∧ RpM B A H (ks.2.map fun p => (V.ref p.2.1, p.2.2)) kvs)
    (ha : allN kvs = true) : ∃ ks, DctN B H a ks ∧ RN B A H ks kvs := by
  rcases h with ⟨ks, e, r⟩ | ⟨ks, e, e2, r⟩
  · cases ks with
    | nil =>
      rw [List.map_nil] at r
      cases r
      exact ⟨[], ⟨.inr ⟨rfl, e⟩, fun p m => (by cases m)⟩, RN.nil⟩
    | cons p t =>
      exfalso
      rw [List.map_cons] at r
      cases r with
      | cons h1 h2 t =>
        unfold allN at ha
        rw [List.all_cons, Bool.and_eq_true] at ha
        obtain ⟨k, hk⟩ := Option.isSome_iff_exists.mp ha.1
        obtain ⟨_, _, ds, rfl⟩ := tupKey_some hk
        obtain ⟨k, v⟩ := p
        cases k <;> cases h1
  · exact ⟨ks.2, ⟨.inl ⟨ks.1, e⟩, rn_keys ⟨e2, r⟩ ha⟩, e2, r⟩
end
def opNotInN : D → D → Option D
  | kd, .dict kvs => (match tupKey kd with
    | some k => if allN kvs then some (.bool (!(dGetN kvs k).isSome)) else none
    | none => none)
  | _, _ => none
theorem rt_key {B : Bs} {A N : Addr → Prop} {H : Hp} {x : V} {kd : D} {k : NestedKey} (h : RtV B A N H x (.d kd)) (hk : tupKey kd = some k) : ∃ b, x = .ref b ∧ NK B.K H (.ref b) k ∧ k.depth ≤ 8 := by
  obtain ⟨e, hd, ds, rfl⟩ := tupKey_some hk
  cases h with
  | of h =>
    have h : Rp B A H x (.tuple ds) := h
    have n := rp_nk h e
    cases h with
    | tup h r => exact ⟨_, rfl, n, hd⟩
theorem od_notInN {B : Bs} : OpD B (rInN B true) opNotInN := by
  intro A N H x y p q z Q fr hz hx hy k
  unfold opNotInN at hz
  split at hz
  · split at hz
    · rename_i kk hkk
      split at hz
      · rename_i ha
        cases hz
        obtain ⟨b, rfl, hn, hd⟩ := rt_key hx hkk
        obtain ⟨a, rfl, hh⟩ := rt_dic hy
        obtain ⟨ks, hD, hR⟩ := to_dct hh ha
        refine ⟨b, a, ks, kk, rfl, rfl, hD, hn, hd, ?_⟩
        rw [rn_some hR]
        exact k _ H (Same.refl H) (.bl _)
      · cases hz
    · cases hz
  · cases hz
section
variable {S : Type} [SI S] {X : Cx} {B : Bs} {E : XK} {e ei a b : Expr} {f fi fa fb : Ex S} {pos p2 : Pos}
theorem cd_notInN (c : Ctx X B) : CmpD X B .NotIn opNotInN := ⟨_, op_notInN c, od_notInN⟩
/-- d[k] = e, d one's own -/
def sPutN (i : Nat) (fi f : Ex S) : Sx S := fun ρ s => (f ρ s).bind fun y s1 => match ρ[i]? with
  | some (.m kvs) => (fi ρ s1).bind fun k s2 => (match y, k with
    | .d z, .d kd => (match tupKey kd with
      | some kk => if kvs.length < sizeLine ∧ allN kvs = true then .ok (.nx (ρ.set i (.m (dPutN kvs kd z kk)))) s2 else .bad
      | none => .bad)
    | _, _ => .bad)
  | _ => .bad
theorem ds_putN (c : Ctx X B) (i : Nat) {x : Expr} (hv : PE X x (tVar i)) (hi : DE X B E ei fi) (h : DE X B E e f) (hs : swapsWith e (some (.Subscript x ei p2)) pos.line X.env = pure false := by rfl) : DS X B E (.Assign [.Subscript x ei p2] e pos) (sPutN i fi f) := by
  refine ps_imp (ps_dputN c hv hi h hs) fun Dd σ H ⟨G, own, ρ, s, R, q⟩ => ?_
  unfold sPutN at q
  refine tD.run R _ q.bnd fun y s1 v H1 q1 k1 r1 R1 => ?_
  cases z : ρ[i]? with
  | none => rw [z] at q1; exact q1.elim
  | some x =>
    rw [z] at q1
    have p := R1.sl i x z
    cases x with
    | m kvs =>
      obtain ⟨a, ho, hs, p⟩ := p
      refine ⟨_, hs, ?_⟩
      refine tD.run R1 _ q1.bnd fun kk s2 u H2 q2 k2 r2 R2 => ?_
      have hd : a ∉ G.dks := fun z => (R.fre i a ho).2 (R.wf1 a z)
      have rv := r1.kp (R1.kp k2)
      cases y with
      | r _ => exact q2.elim
      | o _ _ => exact q2.elim
      | p _ => exact q2.elim
      | f _ => exact q2.elim
      | d d =>
        cases kk with
        | r _ => exact q2.elim
        | o _ _ => exact q2.elim
        | p _ => exact q2.elim
        | f _ => exact q2.elim
        | d kd =>
          dsimp only at q2
          cases hk : tupKey kd with
          | none => rw [hk] at q2; exact q2.elim
          | some k =>
            rw [hk] at q2
            dsimp only at q2
            split at q2
            · rename_i hc
              obtain ⟨ek, hdp, ds, rfl⟩ := tupKey_some hk
              have p2 : (∃ ks : List (Key × V), H2 a = some (.dK ks) ∧ RpM B (Av G own) H2 (ks.map fun p => (kV p.1, p.2)) kvs) ∨ ∃ ks : NL, H2 a = some (dN B a ks) ∧ kvs.map (fun p => keyD p.1) = ks.2.map (fun p => some p.1) ∧ RpM B (Av G own) H2 (ks.2.map fun p => (V.ref p.2.1, p.2.2)) kvs := by
                rcases p with ⟨ks, hx, r⟩ | ⟨ks, hx, ek, r⟩
                · exact .inl ⟨ks, k2.fr a _ hx hd, RpM.kp (R1.kp k2) r⟩
                · exact .inr ⟨ks, k2.fr a _ hx hd, ek, RpM.kp (R1.kp k2) r⟩
              obtain ⟨ks, hD, hR⟩ := to_dct p2 hc.2
              have r2 : Rp B (Av G own) H2 u (.tuple ds) := r2
              have hn := rp_nk r2 ek
              obtain ⟨b, rfl⟩ : ∃ b, u = .ref b := by
                cases r2 with
                | tup h r => exact ⟨_, rfl⟩
              have hnot : ∀ ys, isTu ys = true → H2 a ≠ some ys := fun ys ht h => by
                rcases hD.at_ with ⟨_, e⟩ | ⟨_, e⟩ <;> rw [e] at h <;> cases h <;> cases ht
              have kp : ∀ ob, Kp (Av G own) H2 (upd H2 a (dN B a (ob, putV ks k b v))) := fun ob => by
                refine ⟨fun b ys ht h => ?_, fun b u h n => ?_⟩
                · rw [upd_ne]
                  · exact h
                  · rintro rfl
                    exact hnot _ ht h
                · rw [upd_ne]
                  · exact h
                  · rintro rfl; exact n (.inr ⟨i, ho⟩)
              refine ⟨b, a, ks, k, rfl, rfl, hD, hn, hdp, by rw [← hR.len]; exact hc.1, fun ob => ?_⟩
              have hP := (rn_put hR ek r2 rv).kp (kp ob)
              obtain ⟨R3, g3⟩ := R2.chg (x := .m (dPutN kvs (.tuple ds) d k)) (o := dN B a (ob, putV ks k b v)) ho hs rfl (.inr ⟨(ob, putV ks k b v), upd_same, hP.1, hP.2⟩)
              exact q2 own σ _ R3 ((Gone.of_stp (k1.trans k2)).trans R2 g3)
            · exact q2.elim
    | _ => exact q1.elim
end
/-- the keys of a dict that is not empty -/
def iKeysN {S : Type} (f : Ex S) : Lx S := fun ρ s => (f ρ s).bind fun y s1 => match y with
  | .d (.dict kvs) => if allN kvs = true ∧ kvs ≠ [] then .ok (kvs.map (·.1)) s1 else .bad
  | _ => .bad
end DL
namespace DL
open PySem PySem.Spec PySem.Calls PySem.W PyProof.Rows L2
def putAllV (xs ps : List (NestedKey × Addr × V)) : List (NestedKey × Addr × V) := ps.foldl (fun acc p => putV acc p.1 p.2.1 p.2.2) xs
theorem pv_putAll : ∀ {ps : List (NestedKey × Addr × V)} {qs : List (NestedKey × Addr × Value)}, Paired PV ps qs → ∀ {xs : List (NestedKey × Addr × V)} {ys : List (NestedKey × Addr × Value)}, Paired PV xs ys → Paired PV (putAllV xs ps) (storedAllH ys qs)
  | _, _, .nil, _, _, h => h
  | _, _, .cons (a := p) (b := q) r t, xs, ys, h => by
    obtain ⟨e1, e2, e3⟩ := r
    show Paired PV (putAllV (putV xs p.1 p.2.1 p.2.2) _) (storedAllH (storedH ys q.1 q.2.1 q.2.2) _)
    rw [e1, e2]
    exact pv_putAll t (pv_put h q.1 q.2.1 e3)
theorem putAllV_len : ∀ (ps xs : List (NestedKey × Addr × V)), (putAllV xs ps).length ≤ xs.length + ps.length
  | [], xs => Nat.le_refl _
  | p :: ps, xs => by
    have h1 := putAllV_len ps (putV xs p.1 p.2.1 p.2.2)
    have h2 := putV_len xs p.1 p.2.1 p.2.2
    show (putAllV (putV xs p.1 p.2.1 p.2.2) ps).length ≤ _
    rw [List.length_cons]
    omega
def rDictN (B : Bs) : List V → Hp → VK → Prop := fun vs H Q => ∃ (a : Addr) (ps : List (Addr × NestedKey × Addr × V)), vs = [V.ref a] ∧ SqL B.K H a (ps.map fun p => V.ref p.1) ∧ (∀ p ∈ ps, SqT B.K H p.1 [.ref p.2.2.1, p.2.2.2] ∧ NK B.K H (.ref p.2.2.1) p.2.1 ∧ p.2.1.depth ≤ 8) ∧
  ∀ q o, H q = none → Q (.ref q) (upd H q (dN B q (o, putAllV [] (ps.map (·.2)))))
theorem cr_dictN {X : Cx} {B : Bs} (c : Ctx X B) : CallR X (.type "dict") (rDictN B) := by
  intro pins s σ H xs us Q I r q
  obtain ⟨a, ps, rfl, hq, hp, q⟩ := q
  rw [c.hK] at hq
  obtain ⟨its, rv, pl, hz⟩ := I.list hq
  rw [Vals.ref1 r]
  have key : ∀ {ps : List (Addr × NestedKey × Addr × V)} {its : List Value}, Vals (ps.map fun p => V.ref p.1) its → (∀ p ∈ ps, SqT B.K H p.1 [.ref p.2.2.1, p.2.2.2] ∧ NK B.K H (.ref p.2.2.1) p.2.1 ∧ p.2.1.depth ≤ 8) →
      its = ps.map (fun p => Value.ref p.1) ∧ ∃ qs : List (NestedKey × Addr × Value), Paired PV (ps.map (·.2)) qs ∧ (∀ (j : Nat) (p : Addr × NestedKey × Addr × V), ps[j]? = some p → ∃ z : NestedKey × Addr × Value, qs[j]? = some z ∧ PairAt s.heap p.1 (.ref z.2.1) z.2.2 ∧ z.2.1 = p.2.2.1) ∧ ∀ z ∈ qs, (nestedKind X.prog X.w).is s.heap z.1 z.2.1 := by
    intro ps
    induction ps with
    | nil =>
      intro its rv _
      cases rv
      exact ⟨rfl, [], .nil, fun j p h => by simp at h, fun z m => by cases m⟩
    | cons p ps ih =>
      intro its rv hp
      rw [List.map_cons] at rv
      cases rv with
      | cons r rs =>
        cases r
        obtain ⟨e, qs, h1, h2, h3⟩ := ih rs fun x m => hp x (.tail _ m)
        obtain ⟨hT, hN, hd⟩ := hp p (.head _)
        rw [c.hK] at hT hN
        obtain ⟨it2, rv2, pt, _⟩ := I.tuple hT
        cases rv2 with
        | cons ra rest =>
          cases rest with
          | cons rb rest =>
            cases rest
            cases ra
            rename_i u _
            refine ⟨by rw [e]; rfl, (p.2.1, p.2.2.1, _) :: qs, .cons ⟨rfl, rfl, rb⟩ h1, fun j x hx => ?_, fun z m => ?_⟩
            · cases j with
              | zero =>
                rw [List.getElem?_cons_zero] at hx ⊢
                cases hx
                exact ⟨_, rfl, .inl pt, rfl⟩
              | succ j =>
                rw [List.getElem?_cons_succ] at hx ⊢
                exact h2 j x hx
            · rcases List.mem_cons.mp m with rfl | m
              · exact ⟨NK.is I hN rfl, hd⟩
              · exact h3 z m
  obtain ⟨rfl, qs, h1, h2, h3⟩ := key rv hp
  have hlen : qs.length = ps.length := by
    have := Paired.length h1
    rw [List.length_map] at this
    exact this.symm
  have hlp : (qs.map fun z => (Value.ref z.2.1, z.2.2)).length = qs.length := List.length_map _
  obtain ⟨o, n, ho, hc, hd, hdat⟩ := pl
  rw [List.length_map] at hz
  refine call_dict_pairsH (knd := nestedKind X.prog X.w) (ps := qs) (PairArg.list a (ps.map fun p => Value.ref p.1).toArray (fun j => (ps[j]?.map (·.1)).getD 0) (qs.map fun z => (Value.ref z.2.1, z.2.2))) (I.ok.hd c.calm) (by show X.A.units + 1 + 1 + 8 < cLine; have := c.un; omega)
    ⟨⟨o, n, ho, hc, hd, hdat⟩, ?_, fun j k v e => ?_⟩ ⟨hlp.symm, fun j k v e => ?_⟩ (fun h' hk x hx => nestedKind_stays.stays (fun b ob vs m e _ => hk b ob (Nat.ne_of_lt (Heap.lt_size e)) (by simp) e) (h3 x hx)) (by rw [hlp, hlen]; exact hz) fun h' tk hd' hk => ?_
  · rw [List.length_map, hlen]; simp
  · rw [List.getElem?_map] at e
    cases hz2 : qs[j]? with
    | none => rw [hz2] at e; cases e
    | some z =>
      rw [hz2] at e
      cases e
      have hj : j < ps.length := by
        rw [← hlen]
        by_cases hj : j < qs.length
        · exact hj
        · rw [List.getElem?_eq_none (by omega)] at hz2; cases hz2
      obtain ⟨z', e1, e2, _⟩ := h2 j ps[j] (List.getElem?_eq_getElem hj)
      rw [hz2] at e1
      cases e1
      refine ⟨?_, ?_⟩
      · simp [hj]
      · dsimp only
        rw [List.getElem?_eq_getElem hj]; exact e2
  · have e : (qs.map fun z => (Value.ref z.2.1, z.2.2))[j]? = some (k, v) := e
    rw [List.getElem?_map] at e
    cases hz2 : qs[j]? with
    | none => rw [hz2] at e; cases e
    | some z =>
      rw [hz2] at e
      cases e
      exact ⟨z.1, z.2.1, rfl, rfl⟩
  · obtain ⟨o', es, ep, ho', hx', hdt, he, _, hn'⟩ := hd'
    have hm : (s.heap.objs.size == sysModules) = false := beq_eq_false_iff_ne.mpr (Nat.ne_of_gt I.big)
    refine ⟨.ref s.heap.objs.size, upd H s.heap.objs.size (dN B s.heap.objs.size (o', putAllV [] (ps.map (·.2)))), I.laid (t' := tk) (fun b ob e => hk b ob (by simp) e) (Nat.le_refl _) ?_, rfl, q _ o' (I.hok.fresh (Nat.le_refl _))⟩
    refine ⟨⟨hm, ?_, storedAllH [] qs, pv_putAll h1 .nil, o', es, ep, rfl, ho', hx', hdt, by rw [c.hP, c.hw]; exact he, hn'⟩, ⟨o', ho'⟩, fun g1 g2 pr k2 => ?_⟩
    · have := putAllV_len (ps.map (·.2)) []
      rw [List.length_map, List.length_nil] at this
      show (putAllV [] (ps.map (·.2))).length ≤ sizeLine
      omega
    · obtain ⟨z, l, xs, pp, o, es, ep, eo, ho, r⟩ := pr
      exact ⟨z, l, xs, pp, o, es, ep, eo, k2 _ ho, r⟩
def pairsN : List D → Option (List (D × D))
  | [] => some []
  | .tuple [k, v] :: r => if (tupKey k).isSome then (pairsN r).map ((k, v) :: ·) else none
  | _ :: _ => none
def dAllN (xs ps : List (D × D)) : List (D × D) := ps.foldl (fun acc p => match tupKey p.1 with
  | some k => dPutN acc p.1 p.2 k
  | none => acc) xs
theorem rn_putAll {B : Bs} {A : Addr → Prop} {H : Hp} : ∀ {ps : List (NestedKey × Addr × V)} {qs : List (D × D)}, RN B A H ps qs → allN qs = true → ∀ {xs : List (NestedKey × Addr × V)} {ys : List (D × D)}, RN B A H xs ys → RN B A H (putAllV xs ps) (dAllN ys qs)
  | [], [], _, _, _, _, h => h
  | [], _ :: _, h, _, _, _, _ => by have := h.len; simp at this
  | _ :: _, [], h, _, _, _, _ => by have := h.len; simp at this
  | p :: ps, q :: qs, h, ha, xs, ys, hx => by
    obtain ⟨⟨e, r1, r2⟩, t⟩ := rn_cons.mp h
    unfold allN at ha
    rw [List.all_cons, Bool.and_eq_true] at ha
    obtain ⟨k, hk⟩ := Option.isSome_iff_exists.mp ha.1
    have ek := (tupKey_some hk).1
    rw [e] at ek
    have ek := Option.some.inj ek
    subst ek
    show RN B A H (putAllV (putV xs p.1 p.2.1 p.2.2) ps) (dAllN (match tupKey q.1 with | some k => dPutN ys q.1 q.2 k | none => ys) qs)
    rw [hk]
    exact rn_putAll t ha.2 (rn_put hx e r1 r2)
theorem pairs_rp {B : Bs} {A : Addr → Prop} {H : Hp} : ∀ {xs : List V} {ds : List D} {qs : List (D × D)}, RpL B A H xs ds → pairsN ds = some qs → ∃ ps : List (Addr × NestedKey × Addr × V), xs = ps.map (fun p => V.ref p.1) ∧ (∀ p ∈ ps, SqT B.K H p.1 [.ref p.2.2.1, p.2.2.2] ∧ NK B.K H (.ref p.2.2.1) p.2.1 ∧ p.2.1.depth ≤ 8) ∧ RN B A H (ps.map (·.2)) qs ∧ allN qs = true
  | _, _, _, .nil, h => by
    simp only [pairsN] at h
    cases h
    exact ⟨[], rfl, fun p m => (by cases m), RN.nil, rfl⟩
  | _, _, qs, .cons (d := d) r t, h => by
    unfold pairsN at h
    split at h
    · rename_i e
      exact absurd e (by simp)
    · rename_i k v rest e
      injection e with e1 e2
      subst e1 e2
      split at h
      · rename_i hk
        obtain ⟨qs', h1, rfl⟩ := Option.map_eq_some_iff.mp h
        obtain ⟨ps, rfl, hp, hR, ha⟩ := pairs_rp t h1
        obtain ⟨kk, hkk⟩ := Option.isSome_iff_exists.mp hk
        obtain ⟨ek, hd, ds, rfl⟩ := tupKey_some hkk
        cases r with
        | tup hT rl =>
          cases rl with
          | cons ra rb =>
            cases rb with
            | cons rb rc =>
              cases rc
              have nk := rp_nk ra ek
              cases ra with
              | @tup b _ _ hb rr =>
                refine ⟨(_, kk, b, _) :: ps, rfl, fun p m => ?_, rn_cons.mpr ⟨⟨ek, .tup hb rr, rb⟩, hR⟩, ?_⟩
                · rcases List.mem_cons.mp m with rfl | m
                  · exact ⟨hT.sq, nk, hd⟩
                  · exact hp p m
                · unfold allN at ha ⊢
                  rw [List.all_cons, ha, hk]; rfl
      · cases h
    · cases h
end DL
namespace DL
open PySem PySem.Spec PyProof.Rows L2
variable {S : Type} [SI S]
def nDictN (f : Ex S) : Nx S := fun ρ s => (f ρ s).bind fun y s1 => match y with
  | .d (.list ds) => (match pairsN ds with
    | some ps => .ok (.m (dAllN [] ps)) s1
    | none => .bad)
  | _ => .bad
theorem dn_dictN {X : Cx} {B : Bs} {E : XK} {e : Expr} {f : Ex S} {p pos : Pos} (c : Ctx X B) (hm : X.mg "dict" = none) (h : DE X B E e f) (hg : Gl X "dict" := by rfl)
    (he : starEach [e] X.env = (false, eval e X.env) :: starEach [] X.env := by rfl) (hpl : (backTo pos (starEach [] X.env)).any (·.1) = false := by rfl) : DN X B E (.Call (.Name "dict" p) [e] [] pos) (nDictN f) := by
  refine pe_imp (pe_callTy (cr_dictN c) hg hm (by decide +kernel) (pa_cons h pa_nil he) (he := he) (hpl := hpl)) fun σ H Q ⟨G, own, ρ, s, R, q⟩ => ?_
  refine tD.run R _ q.bnd fun y s1 v H1 q1 k1 r1 R1 => ?_
  cases y with
  | r _ => exact q1.elim
  | o _ _ => exact q1.elim
  | p _ => exact q1.elim
  | f _ => exact q1.elim
  | d y =>
    cases y with
    | list ds =>
      have r1 : Rp B (Av G own) H1 v (.list ds) := r1
      obtain ⟨a, xs, rfl, h, rl⟩ : ∃ a xs, v = .ref a ∧ H1 a = some (.lst xs) ∧ RpL B (Av G own) H1 xs ds := by
        cases r1 with
        | lst h n r => exact ⟨_, _, rfl, h, r⟩
      dsimp only at q1
      cases hq : pairsN ds with
      | none => rw [hq] at q1; exact q1.elim
      | some qs =>
        rw [hq] at q1
        obtain ⟨ps, rfl, hp2, hR, ha⟩ := pairs_rp rl hq
        refine ⟨a, ps, rfl, SqL.of h, hp2, fun q o hq => q1 q _ (k1.trans (R1.put hq)) (Stp.none R1 k1 hq) ?_⟩
        have hF := rn_putAll hR ha RN.nil
        exact .inr ⟨(o, putAllV [] (ps.map (·.2))), upd_same, hF.1, RpM.kp (kp_same (same_upd hq)) (RpM.grow hq hF.2)⟩
    | _ => exact q1.elim
end DL
namespace DL
open PySem PySem.Spec PySem.Calls PySem.W PyProof.Rows L2
/-- d == {} -/
def eDEmp {S : Type} (f : Ex S) : Ex S := fun ρ s => (f ρ s).bind fun y s1 => match y with
  | .d (.dict kvs) => .ok (.d (.bool kvs.isEmpty)) s1
  | _ => .bad
end DL
namespace DL
open PySem PySem.Spec PySem.Calls PySem.W PyProof.Rows L2
/-- the values of a dict that is not empty -/
def iValsN {S : Type} (f : Ex S) : Lx S := fun ρ s => (f ρ s).bind fun y s1 => match y with
  | .d (.dict kvs) => if allN kvs = true ∧ kvs ≠ [] then .ok (kvs.map (·.2)) s1 else .bad
  | _ => .bad
end DL
namespace DL
open PySem PySem.Spec PySem.Calls PySem.W PyProof.Rows L2
end DL
namespace DL
open PySem PySem.Spec PySem.Calls PySem.W PyProof.Rows L2
/-- enumerate of a tuple -/
def iEnuT {S : Type} (f : Ex S) : Lx S := fun ρ s => (f ρ s).bind fun y s1 => match y with
  | .d (.tuple ds) => .ok ((List.range ds.length).zipWith (fun i d => PyData.tuple [.int (i : Nat), d]) ds) s1
  | _ => .bad
end DL
namespace DL
open PySem PySem.Spec PyProof.Rows L2
end DL
namespace DL
open PySem PySem.Spec PyProof.Rows L2
variable {S : Type} [SI S]
def signD (c : Nat) : D := .str ⟨#[c]⟩
section
variable {X : Cx} {B : Bs} {E : XK} {e a b c tg : Expr} {f fa fb : Ex S} {g : Exs S} {pos p apos : Pos}
def iTxt (f : Ex S) : Lx S := fun ρ s => (f ρ s).bind fun y s1 => match y with
  | .d (.str z) => .ok (z.cps.toList.map signD) s1
  | _ => .bad
def opTSl : D → Option Int → Option Int → Option D
  | .str z, lo, hi => if z.length ≤ sizeLine then some (.str (cutS z lo hi)) else none
  | _, _, _ => none
def eTSl (fa : Ex S) (fl fh : Ox S) : Ex S := fun ρ s => (fa ρ s).bind fun x s1 => (fl ρ s1).bind fun l s2 => (fh ρ s2).bind fun h s3 => match x with
  | .d p => (match opTSl p l h with
    | some d => .ok (.d d) s3
    | none => .bad)
  | _ => .bad
/-- a text's method with one argument -/
def eM1 (op : D → D → Option D) (fa fb : Ex S) : Ex S := fun ρ s => (fa ρ s).bind fun x s1 => match x with
  | .d (.str a) => (fb ρ s1).bind fun y s2 => (match y with
    | .d d => (match op (.str a) d with
      | some z => .ok (.d z) s2
      | none => .bad)
    | _ => .bad)
  | _ => .bad
end
section
variable {X : Cx} {B : Bs} {E : XK} {pos : Pos}
/-- a new object as a value -/
def eN (f : Nx S) : Ex S := fun ρ s => (f ρ s).bind fun x s1 => match x with
  | .m kvs => .ok (.d (.dict kvs)) s1
  | .l ds => .ok (.d (.list ds)) s1
  | _ => .bad
theorem DN.de {e : Expr} {f : Nx S} (h : DN X B E e f) : DE X B E e (eN f) := by
  refine pe_imp h fun σ H Q ⟨G, own, ρ, s, R, q⟩ => ?_
  refine ⟨G, own, ρ, s, R, q.bnd.mono fun x s1 q1 p H1 k hp r => ?_⟩
  have fr := R.fresh hp
  cases x with
  | no => exact q1.elim
  | v _ => exact q1.elim
  | g _ _ _ => exact q1.elim
  | q _ _ => exact q1.elim
  | l ds =>
    obtain ⟨xs, e, r⟩ := r
    exact q1 _ H1 k (.lst e fr (r.mono fun a z => .inl z))
  | m kvs =>
    rcases r with ⟨ks, e, r⟩ | ⟨ks, e, e2, r⟩
    · exact q1 _ H1 k (.dic e fr (r.mono fun a z => .inl z))
    · exact q1 _ H1 k (.dct e fr e2 (r.mono fun a z => .inl z))
end
end DL
namespace DL
open PySem PySem.Spec PyProof.Rows L2
variable {S : Type} [SI S]
/-- raise c(e, ..) -/
def sRz (c : Str) (ks : List Str) (g : Exs S) : Sx S := fun ρ s => (g ρ s).bind fun ys s1 => match datas ys with
  | some ds => if ds.length = ks.length then .ex ⟨c, ks.zip ds⟩ s1 else .bad
  | none => .bad
section
variable {X : Cx} {k n : Nat} {f C : Addr} {fd : FuncData} {ps : List Str} {E E' : XK} {x m : Str} {p pos apos : Pos} {e o : Expr} {es : List Expr} {B : Bs} {F : List Val → S → Out S Val} {g : Exs S}
theorem ExR.mono {A A' : Addr → Prop} (k : ∀ a, A' a → A a) {e : Exn} {C : Addr} {od : Option Addr} {H : Hp} (h : ExR B A e C od H) : ExR B A' e C od H := by
  obtain ⟨hc, h⟩ := h
  refine ⟨hc, h.imp id fun ⟨dx, fs, e1, e2, l⟩ => ⟨dx, fs, e1, e2, fun p hp => ?_⟩⟩
  obtain ⟨u, e3, r⟩ := l p hp
  exact ⟨u, e3, r.mono k⟩
/-- f(e, ..), what it raises is let through -/
def eFnX (n : Nat) (F : List Val → S → Out S Val) (g : Exs S) : Ex S := fun ρ s => (g ρ s).bind fun ys s1 => if ys.length = n then F ys s1 else .bad
/-- .. lists of one's own are lent -/
def eFnBX (n : Nat) (F : List Val → S → Out S Val) (g : Exs S) : Ex S := fun ρ s => (g ρ s).bind fun ys s1 => if ys.length = n then (F ys s1).bind fun y s2 => (match y with
    | .d d => if hard d then .ok (.d d) s2 else .bad
    | _ => .bad)
  else .bad
end
end DL
namespace DL
open PySem PySem.Spec PyProof.Rows L2
section
variable {X : Cx} {pins : List (Addr × Obj)} {σ : Sg} {H : Hp} {s : Shared}
/-- a tracked thing told by its own object instead -/
theorem inv_fx {c : Addr} {u : HO} {oc : Obj} (hu : ∀ o v, u ≠ .frz o v) (ht : ∀ xs, u ≠ .tup xs) (hb : ∀ ps, u ≠ .tbl ps) (hw : ∀ a, u ≠ .own a) (I : L2.Inv X pins σ (upd H c u) s) (e : s.heap.get? c = some oc) : L2.Inv X pins σ (upd H c (fxO oc)) s := by
  have off : ∀ {b : Addr} {o : HO}, upd H c u b = some o → u ≠ o → upd H c (fxO oc) b = some o := fun {b o} h n => by
    by_cases z : b = c
    · rw [z, upd_same] at h
      exact absurd (Option.some.inj h) n
    · rw [upd_ne z] at h ⊢
      exact h
  have J := I.step (h' := s.heap) (H' := upd H c (fxO oc)) (g' := s.gens) (t' := s.toks) (d' := s.drawn) (ch := []) (fun b hb => nomatch hb) (fun _ _ _ _ _ h _ => h) (fun _ o _ _ _ h _ => ⟨o.slots, h⟩)
    (fun b o _ _ n => by
      by_cases z : b = c
      · rw [z, upd_same] at n; cases n
      · rw [upd_ne z] at n ⊢; exact n)
    (fun _ o _ h => ⟨o, h⟩) (fun b xs h => off h (ht xs)) (fun b o v h => off h (hu o v)) (fun b ps h => ⟨#[], by rw [Array.append_empty]; exact off h (hb ps)⟩) (fun _ h => h)
    (fun b o h => by
      by_cases z : b = c
      · rw [z, upd_same] at h
        cases h
        rw [z]
        exact ⟨e, oc, e⟩
      · rw [upd_ne z] at h
        exact (I.hok b o (by rw [upd_ne z]; exact h)).stay (fun _ _ _ h => h) (fun a h => off h (hw _)) fun a xs h => off h (ht xs)) I.bare
  exact J
theorem clo_nil : ∀ (names : List (Str × NameKind)) (cells : List (Str × Addr)), (∀ y ∈ names, y.2 ≠ .free) → cloFrom cells names [] = []
  | [], _, _ => rfl
  | (n, k) :: r, cells, h => by
    have hk : (k == NameKind.free) = false := by
      have := h (n, k) (List.mem_cons_self ..)
      cases k <;> first | rfl | exact absurd rfl this
    show (if k == NameKind.free then _ else cloFrom cells r []) = []
    rw [hk]
    exact clo_nil r cells fun y hy => h y (List.mem_cons_of_mem _ hy)
theorem lam_new {c P : Addr} {params : Arguments} {body : Expr} {scope : Scope} {pos : Pos} {E : Value → Shared → Prop} {Q : Value → Shared → Prop} (I : L2.Inv X pins σ H s) (TB : LamX.TabB X.base X.mg c P) (hcode : X.env.code = .ref c)
    (hT : TabO H P (X.env.qual ++ "<lambda>")) (hdef : defaultsOf params X.env = ([], [])) (hfree : ∀ y ∈ scope.names, y.2 ≠ .free)
    (k : ∀ (f c' : Addr) (pm ctv : Value) (H1 : Hp) (s' : Shared), L2.Inv X pins σ H1 s' → (∀ b o, H b = some o → b ≠ P → H1 b = some o) → TabO H1 P (X.env.qual ++ "<lambda>") →
      H1 f = some (fxO (PySem.W.kla_obj "<lambda>" (X.env.qual ++ "<lambda>") params body scope [] pm c' ctv)) → CdAt H1 c' (X.env.qual ++ "<lambda>") → Q (.ref f) s') :
    wpAny (model X.prog X.w) X.A (eval (.Lambda params body scope pos) X.env) Q E s := by
  obtain ⟨ps, hP, ht, ha⟩ := hT
  have clo : closureFor scope X.env = pure [] := by rw [closure_ok (fun y hy e => absurd e (hfree y hy)), clo_nil _ _ hfree]
  have hP2 : s.heap.get? P = some (PySem.W.tabObj ps) := I.hok P _ hP
  refine PySem.W.kla_eval hdef ?_
  cases hc : codeAmong pos ps.toList with
  | none =>
    refine PySem.W.kla_makeFunction (mg := X.mg) (c := c) (P := P) (ps := ps) clo I.ok.glob (I.mod.glob.keeps I.bk) hcode (TB.code.keeps I.bk) hP2 ht hc TB.gP (TB.bm.keeps I.bk) fun c' ctv h' tk hx hge hlt hrec htb => ?_
    obtain ⟨c2, oc, vs, t, e2, hoc, hd, hv⟩ := hrec
    cases e2
    have I1 := LamX.inv_table (t' := tk) (more := #[rawInt pos.line, rawInt pos.col, .ref c']) (h' := h') I hP (fun b o hb e => hx b o hb e) htb hge ⟨oc, vs, t, hoc, hd, hv⟩
    have I2 := inv_fx (fun _ _ z => by unfold LamX.CodeO at z; cases z) (fun _ z => by unfold LamX.CodeO at z; cases z) (fun _ => LamX.codeO_ne _) (fun _ z => by unfold LamX.CodeO at z; cases z) I1 (oc := oc) hoc
    have nC : H c' = none := I.hok.fresh hge
    have nF : H h'.objs.size = none := I.hok.fresh (Nat.le_trans hge (Nat.le_of_lt hlt))
    have nPc : P ≠ c' := fun z => by rw [z, nC] at hP; cases hP
    have nPf : P ≠ h'.objs.size := fun z => by rw [z, nF] at hP; cases hP
    have ncf : c' ≠ h'.objs.size := Nat.ne_of_lt hlt
    have I3 := I2.laid (a := h'.objs.size) (t' := tk) (o := fxO (PySem.W.kla_obj "<lambda>" (X.env.qual ++ "<lambda>") params body scope [] ((X.mg "__name__").getD .none) c' ctv))
      (h' := h'.push (PySem.W.kla_obj "<lambda>" (X.env.qual ++ "<lambda>") params body scope [] ((X.mg "__name__").getD .none) c' ctv)) (fun b o e => Heap.get?_push_of_some _ e) (Nat.le_refl _) ⟨Heap.get?_push_size _ rfl, _, Heap.get?_push_size _ rfl⟩
    have old : ∀ b o, H b = some o → b ≠ P → upd (upd (upd H P (.tbl (ps ++ #[rawInt pos.line, rawInt pos.col, .ref c']))) c' (fxO oc)) h'.objs.size (fxO (PySem.W.kla_obj "<lambda>" (X.env.qual ++ "<lambda>") params body scope [] ((X.mg "__name__").getD .none) c' ctv)) b = some o := fun b o e n => by
      rw [upd_ne (fun z => by rw [z, nF] at e; cases e), upd_ne (fun z => by rw [z, nC] at e; cases e), upd_ne n]
      exact e
    have cd : CdAt (upd (upd (upd H P (.tbl (ps ++ #[rawInt pos.line, rawInt pos.col, .ref c']))) c' (fxO oc)) h'.objs.size (fxO (PySem.W.kla_obj "<lambda>" (X.env.qual ++ "<lambda>") params body scope [] ((X.mg "__name__").getD .none) c' ctv))) c' (X.env.qual ++ "<lambda>") :=
      ⟨oc, vs, t, by rw [upd_ne ncf, upd_same], hd, hv⟩
    refine k h'.objs.size c' ((X.mg "__name__").getD .none) ctv _ _ I3 old ⟨ps ++ #[rawInt pos.line, rawInt pos.col, .ref c'], by rw [upd_ne nPf, upd_ne nPc, upd_same], ?_, fun p' cv hcv => ?_⟩ upd_same cd
    · rw [Array.toList_append]
      exact TriplesOk_snoc _ _ _ _ ht
    · rw [Array.toList_append] at hcv
      rcases LamX.among_app _ ht hcv with z | z
      · obtain ⟨c0, e1, oc0, vs0, t0, e3, r⟩ := ha p' cv z
        exact ⟨c0, e1, oc0, vs0, t0, old _ _ e3 (fun z => by rw [z, hP] at e3; cases e3), r⟩
      · exact ⟨c', z, cd⟩
  | some cv =>
    obtain ⟨c', e, hco⟩ := ha pos cv hc
    subst e
    refine PySem.W.kla_makeFunctionHit (mg := X.mg) (c := c) (P := P) (ps := ps) clo I.ok.glob (I.mod.glob.keeps I.bk) hcode (TB.code.keeps I.bk) hP2 ht hc (TB.bm.keeps I.bk) fun ctv h' tk hx hsz => ?_
    have nF : H h'.objs.size = none := I.hok.fresh hsz
    have I3 := I.laid (a := h'.objs.size) (t' := tk) (o := fxO (PySem.W.kla_obj "<lambda>" (X.env.qual ++ "<lambda>") params body scope [] ((X.mg "__name__").getD .none) c' ctv))
      (h' := h'.push (PySem.W.kla_obj "<lambda>" (X.env.qual ++ "<lambda>") params body scope [] ((X.mg "__name__").getD .none) c' ctv)) (fun b o e => Heap.get?_push_of_some _ (hx b o e)) hsz ⟨Heap.get?_push_size _ rfl, _, Heap.get?_push_size _ rfl⟩
    have old : ∀ b o, H b = some o → upd H h'.objs.size (fxO (PySem.W.kla_obj "<lambda>" (X.env.qual ++ "<lambda>") params body scope [] ((X.mg "__name__").getD .none) c' ctv)) b = some o := fun b o e => by
      rw [upd_ne (fun z => by rw [z, nF] at e; cases e)]
      exact e
    exact k h'.objs.size c' ((X.mg "__name__").getD .none) ctv _ _ I3 (fun b o e _ => old b o e) ⟨ps, old _ _ hP, ht, fun p' cv hcv => let ⟨c0, e1, e2⟩ := ha p' cv hcv; ⟨c0, e1, e2.kp fun a u _ h => old a u h⟩⟩ upd_same (hco.kp fun a u _ h => old a u h)
end
/-- lambda ..: as a value -/
def eLam (n : Nat) : Ex Dk := fun _ s => .ok (.f n) s
theorem de_lam {X : Cx} {B : Bs} {E : XK} {n : Nat} {q : Str} {c P : Addr} {params : Arguments} {body : Expr} {scope : Scope} {pos : Pos} (hL : lamD n = some ⟨q, params, body, scope⟩) (hq : X.env.qual ++ "<lambda>" = q) (hm : (P, q) ∈ tabs) (nd : (tabs.map (·.1)).Nodup)
    (hcode : X.env.code = .ref c) (TB : LamX.TabB X.base X.mg c P) (hdef : defaultsOf params X.env = ([], [])) (hfree : ∀ y ∈ scope.names, y.2 ≠ .free) : DE X B E (.Lambda params body scope pos) (eLam n) := by
  refine ⟨fun pins s σ H Q I h => ?_⟩
  obtain ⟨G, own, ρ, s0, R, h⟩ := h
  have hT := R.rs.2.2 _ hm
  obtain ⟨ps, hP, _⟩ := id hT
  subst hq
  have inG : P ∈ G.dks := by
    rw [← R.dk]
    exact List.mem_cons_of_mem _ (List.mem_cons_of_mem _ (List.mem_map.mpr ⟨_, hm, rfl⟩))
  refine lam_new I TB hcode hT hdef hfree fun f c' pm ctv H1 s' I1 kp hT1 hf hc => ⟨.ref f, H1, I1, rfl, ?_⟩
  have tu : ∀ a u, isTu u = true → H a = some u → H1 a = some u := fun a u t e => kp a u e fun z => by
    rw [z, hP] at e
    cases e
    cases t
  refine h (.ref f) H1 ⟨fun a o e n => kp a o e fun z => n (by rw [z]; exact inG), R.dk, ?_⟩ ⟨f, c', pm, ctv, _, rfl, hL, hf, hc⟩
  refine ⟨kp _ _ R.rs.1 fun z => ?_, kp _ _ R.rs.2.1 fun z => ?_, fun p hp => ?_⟩
  · have e := R.rs.1
    rw [z, hP] at e
    cases e
  · have e := R.rs.2.1
    rw [z, hP] at e
    cases e
  · by_cases z : p.1 = P
    · have e : p.2 = X.env.qual ++ "<lambda>" := by
        have key : ∀ (l : List (Addr × Str)), (l.map (·.1)).Nodup → ∀ a b, a ∈ l → b ∈ l → a.1 = b.1 → a = b := by
          intro l
          induction l with
          | nil => intro _ a _ h; cases h
          | cons x l ih =>
            intro nd a b h1 h2 e
            rw [List.map_cons, List.nodup_cons] at nd
            rcases List.mem_cons.mp h1 with rfl | g1
            · rcases List.mem_cons.mp h2 with rfl | g2
              · rfl
              · exact absurd (List.mem_map.mpr ⟨b, g2, e.symm⟩) nd.1
            · rcases List.mem_cons.mp h2 with rfl | g2
              · exact absurd (List.mem_map.mpr ⟨a, g1, e⟩) nd.1
              · exact ih nd.2 a b g1 g2 e
        rw [key tabs nd p _ hp hm z]
      rw [z, e]
      exact hT1
    · obtain ⟨ps', e1, _⟩ := id (R.rs.2.2 p hp)
      exact (R.rs.2.2 p hp).kp (by rw [kp _ _ e1 z, e1]) tu
/-- what a lambda gives, wherever it lies -/
def LamG (P : Program) (w : World) (K : PySem.W.Frag) (mg : Str → Option Value) (base : Heap) (B : Bs) (k n m : Nat) (F : List Val → Dk → Out Dk Val) : Prop :=
  ∀ (A : Around) (outer : List PySem.Env) (s : Shared) (H : Hp) (us : List Value) (vs : List V) (Q : VK) (f : Addr), Room k A → A.guards = some [] → Env0 P w K mg base A outer s H → LamAt H (.ref f) n → Vals vs us → spP B m F vs H Q E0 →
    codeAny (model P w) A (.call (.ref f) ⟨us, []⟩) (CR CX0 outer P w H s Q E0) s
section
variable {P : Program} {w : World} {K : PySem.W.Frag} {mg : Str → Option Value} {base : Heap} {B : Bs} {k n n2 : Nat} {ps N : List Str} {L : LamD}
/-- a lambda's body as a function: n further slots -/
def runL (n : Nat) (body : Ex Dk) (ys : List Val) (s : Dk) : Out Dk Val := body (ys.map .v ++ List.replicate n .no) s
abbrev cxL (P : Program) (w : World) (K : PySem.W.Frag) (mg : Str → Option Value) (base : Heap) (N : List Str) (L : LamD) (f : Addr) (cdv : Value) (A : Around) (outer : List PySem.Env) (s : Shared) (H : Hp) (E : XK) : Cx :=
  (cxOf CX0 P w K mg base N L.q L.sc f cdv A outer s H E).nox
theorem fl_pure (hP : B.P = P) (hK : B.K = K) (hw : B.w = w) (hL : lamD n = some L) (Sc : FnScope N ps L.sc) (body : Ex Dk) (hn : N.length = ps.length + n2)
    (hb : ∀ (pm cv ctv : Value) (us : List Value), us.length = ps.length → bindArgs (PySem.W.kla_fn "<lambda>" L.q L.ps L.body L.sc [] pm cv ctv) ⟨us, []⟩ = pure (ps.zip us))
    (h : ∀ (f : Addr) (cdv : Value) (A : Around) (outer : List PySem.Env) (s : Shared) (H : Hp) (E : XK), Ctx (cxL P w K mg base N L f cdv A outer s H E) B → Room k (cxL P w K mg base N L f cdv A outer s H E).A → DE (cxL P w K mg base N L f cdv A outer s H E) B E00 L.body body) :
    LamG P w K mg base B (k + 1) n ps.length (runL n2 body) := by
  intro A outer s H us vs Q f hr hg e0 hl r hsp
  obtain ⟨a, c, pm, ctv, L', e, hL', hf, oc, vs', t, hc, hd, hv⟩ := hl
  cases e
  rw [hL] at hL'
  cases hL'
  obtain ⟨A0, ys, s0, hyl, cl, q⟩ := hsp
  have hf2 := (e0.hok f _ hf).1
  have hc2 := (e0.hok c _ hc).1
  have lim : s.heap.NoLimit := e0.mod.nolimit.keeps (fun b o e => (e0.bs b o e).1)
  have hul : us.length = ps.length := by rw [← r.length, cl.av.len, hyl]
  have hkind : ∀ y ∈ ps.zip us, L.sc.names.lookup y.1 = some .local ∨ (L.sc.names.lookup y.1 = some .cell ∧ ((cellsFrom (s.heap.objs.size + 1) L.sc.names []).lookup y.1).isSome = true) := by
    rintro ⟨n, v⟩ hy
    exact (Sc.par n (List.of_mem_zip hy).1).imp id (fun q => ⟨q, PySem.W.cellsFrom_some _ _ _ (.inl q)⟩)
  refine PySem.W.kla_callFunE hr.depth hf2 rfl Sc.co Sc.gen rfl ⟨c, oc, vs', t, rfl, hc2, hd, hv⟩ ?_
  rw [hb _ _ _ _ hul]
  refine wpAny_pure (wpAny_newFunctionEnv_cells Sc.kind hkind (fun env he s1 x => ?_))
  subst he
  refine ⟨lim.keeps x.toInCall.keep, PySem.W.kla_codeExpr ?_⟩
  have I := inv_start (CX := CX0) (E := E0) Sc hr.hd e0 (by rw [cl.av.len, hyl]) r x
  have hctx : Ctx (cxOf CX0 P w K mg base N L.q L.sc f (.ref c) A outer s H E0) B :=
    ⟨hP, hK, hw, rfl, Sc.nd, by have := (hr.deeper (envOfC L.q L.sc s.heap.objs.size f (.ref c))).un; show (A.deeper (envOfC L.q L.sc s.heap.objs.size f (.ref c))).units + 100 < cLine; omega, hg⟩
  have q2 := noex_sat (T' := fun _ _ => False) q
  refine wpAny_mono ((h f (.ref c) A outer s H E0 hctx.nox (hr.deeper _)).nox.run [] s1 (L2.start N vs) H Q I ?_) (fun v s' hs => ?_) (fun _ _ hs => hs)
  · refine ⟨⟨H, A0, SI.dks s0⟩, _, _, s0, rel_start (n := n2) cl (by rw [hn, cl.av.len, hyl]), ?_⟩
    unfold runL at q2
    exact Out.sat.both q2 fun y s1 q3 v H' st r => q3 v H' ⟨st.fr, st.dk, st.rs⟩ (r.mono fun a z => .inl z)
  · obtain ⟨v', H', J, rv, q⟩ := hs
    exact ⟨v', H', J.os, J.bare, J.base, J.hok, rv, q⟩
end
/-- x(e, ..), x a lambda -/
def eCallF (lam : Nat → Option (Nat × (List Val → Dk → Out Dk Val))) (i : Nat) (g : Exs Dk) : Ex Dk := fun ρ s => match ρ[i]? with
  | some (.v (.f n)) => (match lam n with
    | some mF => eFn mF.1 mF.2 g ρ s
    | none => .bad)
  | _ => .bad
theorem de_callF {X : Cx} {B : Bs} {E : XK} {k i : Nat} {a : Str} {e : Expr} {es : List Expr} {g : Exs Dk} {p pos : Pos} {lam : Nat → Option (Nat × (List Val → Dk → Out Dk Val))} (c : Ctx X B) (hl : ∀ n m F, lam n = some (m, F) → LamG X.prog X.w X.K X.mg X.base B k n m F) (hr : Room k X.A)
    (hv : PE X (.Name a p) (tVar i)) (ha : DV X B E (e :: es) g) (he : starEach (e :: es) X.env = (false, eval e X.env) :: starEach es X.env := by rfl) (hpl : (backTo pos (starEach es X.env)).any (·.1) = false := by rfl) :
    DE X B E (.Call (.Name a p) (e :: es) [] pos) (eCallF lam i g) := by
  refine ⟨fun pins s σ H Q I h => ?_⟩
  obtain ⟨G, own, ρ, s0, R, h⟩ := h
  unfold eCallF at h
  split at h
  case h_2 => exact h.elim
  rename_i n hi
  cases hm : lam n with
  | none => rw [hm] at h; exact h.elim
  | some mF =>
    obtain ⟨m, F⟩ := mF
    rw [hm] at h
    obtain ⟨u, hu, hlam⟩ := R.sl i _ hi
    have hlam : LamAt H u n := hlam
    obtain ⟨f, c', pm, ctv, L, rfl, _⟩ := id hlam
    refine wpAny_Call_Name_kw (thn (hv.run pins s σ H (fun v H1 => v = .ref f ∧ H1 = H) I ⟨.ref f, hu, rfl, rfl⟩) fun u s1 ⟨v, H1, I1, r1, q1⟩ => ?_)
    obtain ⟨rfl, rfl⟩ := q1
    obtain rfl : u = Value.ref f := r1
    have fat : ∀ {H2 : Hp} {s2 : Shared}, L2.Inv X pins σ H2 s2 → LamAt H2 (.ref f) n → PySem.W.FnAt f s2.heap := fun {H2 s2} I2 ⟨a', c2, pm2, ctv2, L2, e, _, hf, _⟩ => by
      cases e
      exact ⟨_, _, _, _, (I2.hok f _ hf).1⟩
    have h2 := (show ((g ρ s0).bind fun ys s1 => if ys.length = m then noex (F ys s1) else .bad).sat _ _ from h).bnd
    refine PySem.W.callWith_F (fat I1 hlam) (thn (ha.run pos pins s1 σ _ (fun vs H1 => LamAt H1 (.ref f) n ∧ spP B m F vs H1 Q E0) I1 ⟨G, own, ρ, s0, R, h2.mono fun ys s1 q1 vs H1 k1 r1 => ⟨LamAt.kp (R.kp k1).tup hlam, ?_⟩⟩) fun us s2 ⟨vs, H2, I2, r, hl2, q⟩ => ⟨fat I2 hl2, ?_⟩) he hpl
    · have R1 := R.stp k1
      split at q1
      · rename_i hyl
        refine ⟨Av G own, ys, s1, hyl, call0_of R1 r1, ?_⟩
        generalize hz : noex (F ys s1) = z at q1
        cases z with
        | bad => exact q1.elim
        | ok y s2 => exact fun v H' c1 rv => q1 v H' (k1.trans (stp_of R1 c1)) rv
        | ex e s2 =>
          exfalso
          cases hF : F ys s1 <;> rw [hF] at hz <;> cases hz
      · exact q1.elim
    · refine wpAny_call (codeAny_mono (hl n m F hm X.A X.stack s2 H2 us vs Q f hr c.gd I2.env0 hl2 r q) fun r s' hq => ?_)
      cases r with
      | error e => exact pass0 pins σ H2 s2 e s' I2 hq
      | ok fl => cases fl with
        | ret u => exact I2.after hq
        | next => exact hq.elim
        | brk => exact hq.elim
        | cont => exact hq.elim
end DL
namespace DL
open PySem PySem.Spec PyProof.Rows L2
/-- the code object of a def, its table at P -/
def MkC (K : PySem.W.Frag) (cdv : Value) (P : Addr) : Prop := ∃ c, cdv = .ref c ∧ PySem.W.codeHdIn K c P = true
def MkAt (K : PySem.W.Frag) (fd : FuncData) (P : Addr) : Prop := MkC K fd.code P
/-- what the making of a code object asks of the module -/
def TabsB (base : Heap) (mg : Str → Option Value) : Prop := ∀ p ∈ tabs, base.BuiltinsAt mg p.1 ∧ mainGlobals ≠ p.1
section
variable {P : Program} {w : World} {K : PySem.W.Frag} {mg : Str → Option Value} {base : Heap} {B : Bs} {k n : Nat} {f : Addr} {fd : FuncData} {ps N : List Str} {x qual : Str} {st : Stmt}
/-- the rule for a def that makes lambdas -/
theorem fg_pureM {Pt : Addr} (hP : B.P = P) (hK : B.K = K) (hw : B.w = w) (F : Fun K x qual st f fd) (mk : MkAt K fd Pt) (Sc : FnScope N ps (defScope st)) (body : Sx S) [SI S] (hn : N.length = ps.length + n)
    (h : ∀ (cdv : Value) (A : Around) (outer : List PySem.Env) (s : Shared) (H : Hp) (E : XK), MkC K cdv Pt → Ctx (cxP P w K mg base N qual st f cdv A outer s H E) B → Room k (cxP P w K mg base N qual st f cdv A outer s H E).A →
      DSs (cxP P w K mg base N qual st f cdv A outer s H E) B E00 (defBody st) body) : FnG P w K mg base CX0 (k + 1) f fd ps (spP B ps.length (runF n body)) := by
  obtain ⟨oc, od, kV, doc, pm, an, cdv, ct, osl, rfl, lk, hcd⟩ := F.ex
  have mk : MkC K cdv Pt := mk
  refine fg_of lk hcd Sc (fun vs H Q E h => let ⟨_, _, _, hl, c, _⟩ := h; by rw [c.av.len, hl]) fun A outer s H vs Q E hr hg hsp => ?_
  obtain ⟨A0, ys, s0, hl, c, q⟩ := hsp
  refine ⟨_, (h cdv A outer s H E mk (ctx_of hP hK hw Sc hr hg).nox hr).nox, ⟨H, A0, SI.dks s0⟩, _, _, s0, rel_start (n := n) c (by rw [hn, c.av.len, hl]), ?_⟩
  have q2 := noex_sat (T' := fun _ _ => False) q
  unfold runF at q2
  refine Out.sat.both q2.bnd fun fl s1 q3 => ?_
  cases fl with
  | nx ρ' => exact fun own' σ' H' R' _ => q3 .non H' ⟨R'.fr, R'.dk, R'.rs⟩ .non
  | rt y => exact fun v H' fr r => q3 v H' ⟨fr.fr, fr.dk, fr.rs⟩ r
  | bk _ => exact q3.elim
  | ct _ => exact q3.elim
  | rg _ _ => exact q3.elim
/-- .. by hand -/
theorem fg_handM {Pt : Addr} {sp : Sp} (hP : B.P = P) (hK : B.K = K) (hw : B.w = w) (F : Fun K x qual st f fd) (mk : MkAt K fd Pt) (Sc : FnScope N ps (defScope st)) (len : ∀ vs H Q E, sp vs H Q E → vs.length = ps.length)
    (h : ∀ (cdv : Value) (A : Around) (outer : List PySem.Env) (s : Shared) (H : Hp) (vs : List V) (Q : VK) (E : XK), MkC K cdv Pt → Ctx (cxP P w K mg base N qual st f cdv A outer s H E) B → Room k (cxP P w K mg base N qual st f cdv A outer s H E).A → sp vs H Q E →
      ∃ t, PSs (cxP P w K mg base N qual st f cdv A outer s H E) (defBody st) t ∧ t { nx := fun _ H' => Q .non H', rt := Q } (L2.start N vs) H) : FnG P w K mg base CX0 (k + 1) f fd ps sp := by
  obtain ⟨oc, od, kV, doc, pm, an, cdv, ct, osl, rfl, lk, hcd⟩ := F.ex
  have mk : MkC K cdv Pt := mk
  refine fg_of lk hcd Sc len fun A outer s H vs Q E hr hg hsp => ?_
  obtain ⟨t, ht, q⟩ := h cdv A outer s H vs Q E mk (ctx_of hP hK hw Sc hr hg).nox hr hsp
  exact ⟨t, ht.nox, q⟩
end
/-- lambda .., made in a def of which the table is known -/
theorem de_lamM {X : Cx} {B : Bs} {E : XK} {n : Nat} {q : Str} {P : Addr} {params : Arguments} {body : Expr} {scope : Scope} {pos : Pos} (mk : MkC X.K X.env.code P) (TB : TabsB X.base X.mg) (hL : lamD n = some ⟨q, params, body, scope⟩) (hq : X.env.qual ++ "<lambda>" = q) (hm : (P, q) ∈ tabs) (nd : (tabs.map (·.1)).Nodup)
    (hdef : defaultsOf params X.env = ([], [])) (hfree : ∀ y ∈ scope.names, y.2 ≠ .free) : DE X B E (.Lambda params body scope pos) (eLam n) := by
  obtain ⟨c, hc, hh⟩ := mk
  refine ⟨fun pins s σ H Q I h => ?_⟩
  exact (de_lam (B := B) (E := E) (pos := pos) hL hq hm nd hc ⟨PySem.W.codeHd_of_K I.ok.mod.kin hh, (TB _ hm).1, (TB _ hm).2⟩ hdef hfree).run pins s σ H Q I h
theorem law_callT {P : Program} {w : World} {K : PySem.W.Frag} {mg mb : Str → Option Value} {k : Nat} {fa a : Addr} {fd : FuncData} {x : Str} {sp : Sp} {s1 : Shared} {vs : List Value} {ns : List Int}
    (KX : K.In s1.heap) (hns : s1.heap.Ns mainGlobals mg) (hb : s1.heap.Ns builtinsNs mb) (hbb : ∀ x : Str, x ≠ "__name__" → mb x = bootBuiltins x) (hlim : s1.heap.NoLimit) (hg : s1.gens = #[])
    (hT : ∀ p ∈ tabs, s1.heap.get? p.1 = some (PySem.W.tabObj #[])) (nT : ∀ p ∈ tabs, K.lookup p.1 = none) (hC : ∀ p ∈ tabs, ∃ c, PySem.W.codeHdIn K c p.1 = true)
    (hbm : ∃ (bm : Addr) (ob : Obj), mg "__builtins__" = some (.ref bm) ∧ bm ≠ builtinsNs ∧ s1.heap.get? bm = some ob ∧ ob.cls = .type "module" ∧ ob.dict = some builtinsNs ∧ ob.data = .plain)
    (ha : s1.heap.get? a = some { cls := .type "list", data := .seq vs.toArray }) (hi : IntsAre vs ns) (hl : ns.length ≤ sizeLine) (hr : Room k callerA)
    (F : ∀ base : Heap, K.In base → base.Ns mainGlobals mg → TabsB base mg → FnG P w K mg base CX0 k fa fd [x] sp) (hbind : ∀ (s : Shared) (u : Value), BindsTo s fd ⟨[u], []⟩ [(x, u)])
    (hsp : ∀ H : Hp, (∀ p ∈ tabs, H p.1 = some (.tbl #[])) → SqL K H a (ns.map V.int) → sp [.ref a] H (fun v _ => v = .bl true) fun _ _ _ => False) :
    codeAny (model P w) callerA (.call (.ref fa) ⟨[.ref a], []⟩) (fun r s' => r = .ok (.ret (.bool true)) ∧ OldK s1.heap s'.heap ∧ s'.os = s1.os ∧ AllBare s'.gens) s1 := by
  have rv := vals_ints hi
  have tob : ∀ {b : Addr} {q : Str}, (b, q) ∈ tabs → s1.heap.get? b = some (PySem.W.tabObj #[]) := fun h => hT _ h
  have aT : a ∉ tabs.map (·.1) := fun z => by
    obtain ⟨q, hq⟩ := mem_tabs z
    have e := tob hq
    rw [ha] at e
    have e := congrArg Obj.data (Option.some.inj e)
    cases (show Data.seq vs.toArray _ = Data.fields #[] from e)
  have core : ∀ H : Hp, (∀ p ∈ tabs, H p.1 = some (.tbl #[])) → (∀ b, H b = none ∨ (∃ q, (b, q) ∈ tabs) ∨ ∃ o xs, H b = some (.frz o (.lst xs))) → SqL K H a (ns.map V.int) → HOk P w H s1.heap → (∀ b, H b ≠ none → b = a ∨ ∃ q, (b, q) ∈ tabs) → (H a ≠ none → K.lookup a = none) →
      codeAny (model P w) callerA (.call (.ref fa) ⟨[.ref a], []⟩) (fun r s' => r = .ok (.ret (.bool true)) ∧ OldK s1.heap s'.heap ∧ s'.os = s1.os ∧ AllBare s'.gens) s1 := by
    intro H hTb hO hS hok hA hK
    have free : ∀ {b : Addr} {o : Obj}, s1.heap.get? b = some o → (∀ its n, o.data ≠ .seq its n) → o.data ≠ .fields #[] → H b = none := fun {b o} e n1 n2 => by
      cases q : H b with
      | none => rfl
      | some u =>
        exfalso
        rcases hA b (by rw [q]; simp) with z | ⟨y, z⟩
        · rw [z, ha] at e
          cases e
          exact n1 _ _ rfl
        · rw [tob z] at e
          cases e
          exact n2 rfl
    have nsK : ∀ {b : Addr} {m : Str → Option Value}, s1.heap.Ns b m → (hidT s1.heap H).Ns b m := by
      rintro b m ⟨o, es, ep, e, d, r⟩
      exact ⟨o, es, ep, hidT_get e (free e (fun _ _ z => by rw [d] at z; cases z) fun z => by rw [d] at z; cases z), d, r⟩
    have hKb : K.In (hidT s1.heap H) := fun b o e => hidT_get (KX b o e) (by
      cases q : H b with
      | none => rfl
      | some u =>
        exfalso
        rcases hA b (by rw [q]; simp) with z | ⟨y, z⟩
        · rw [z] at e q
          rw [hK (by rw [q]; simp)] at e
          cases e
        · have := nT _ z
          rw [show K.lookup b = none from this] at e
          cases e)
    have hM : Mod K mg (hidT s1.heap H) := ⟨hKb, nsK hns, ⟨mb, nsK hb, hbb⟩, let ⟨mc, h1, h2⟩ := hlim; ⟨mc, nsK h1, h2⟩⟩
    have TB : TabsB (hidT s1.heap H) mg := fun p hp => by
      obtain ⟨bm, ob, b1, b2, b3, b4, b5, b6⟩ := hbm
      refine ⟨⟨bm, ob, b1, b2, fun z => ?_, fun z => ?_, hidT_get b3 (free b3 (fun _ _ z => by rw [b6] at z; cases z) fun z => by rw [b6] at z; cases z), b4, b5, b6⟩, fun z => ?_⟩
      · obtain ⟨o, es, ep, e, d, _⟩ := hns
        rw [z, e] at b3
        cases b3
        rw [d] at b6
        cases b6
      · rw [z, hT p hp] at b3
        cases b3
        cases b6
      · obtain ⟨o, es, ep, e, d, _⟩ := hns
        rw [z, hT p hp] at e
        cases e
        cases d
    have e0 : Env0 P w K mg (hidT s1.heap H) callerA [] s1 H := by
      refine ⟨rfl, hM, fun b o e => of_hidT e, Nat.le_of_eq (hidT_size _ _), trivial, fun b hb => ?_, hok, .of_eq hg⟩
      exact absurd (show b ∈ ([] : List Addr) from hb) (by simp)
    refine codeAny_mono ((F _ hKb (nsK hns) TB).run callerA [] s1 H ⟨[.ref a], []⟩ [.ref a] [.ref a] _ _ hr callerA_gd e0 (hbind s1 (.ref a)) (.cons rfl .nil) (hsp H hTb hS)) (fun r s' h => ?_)
    cases r with
    | error e => exact h.elim
    | ok fl => cases fl with
      | next => exact h.elim
      | brk => exact h.elim
      | cont => exact h.elim
      | ret u =>
        obtain ⟨v, H', os, bare, un, hok', r', q⟩ := h
        obtain rfl : v = .bl true := q
        obtain rfl : u = Value.bool true := r'
        have grow : ∀ {b : Addr} {y : Str}, (b, y) ∈ tabs → ∃ more : Array Value, s'.heap.get? b = some (PySem.W.tabObj more) := fun {b y} z => by
          obtain ⟨more, e⟩ := un.tbls b #[] (hTb _ z)
          exact ⟨_, hok' b _ e⟩
        have kept : ∀ b o, (∀ y, (b, y) ∉ tabs) → s1.heap.get? b = some o → s'.heap.get? b = some o := fun b o n e => by
          rcases hO b with z | ⟨y, z⟩ | ⟨ob, xs, z⟩
          · exact un.keep b o e z (fun z => absurd (show b ∈ ([] : List Addr) from z) (by simp)) (by simp)
          · exact absurd z (n y)
          · obtain ⟨e1, _⟩ := hok b _ z
            obtain ⟨e2, _⟩ := hok' b _ (un.frzs b ob _ z)
            rw [e] at e1
            cases e1
            exact e2
        refine ⟨rfl, ⟨fun b o e => ?_, fun b o e => ?_⟩, os, bare⟩
        · by_cases hb : ∃ y, (b, y) ∈ tabs
          · obtain ⟨y, z⟩ := hb
            obtain ⟨more, e2⟩ := grow z
            obtain ⟨c, hc⟩ := hC _ z
            rw [tob z] at e
            cases e
            exact .inr (.inl ⟨((PySem.W.codeHd_of_K KX hc).tab (tob z)).isCodeTable, rfl, #[], more, rfl, by rw [Array.empty_append]; exact e2⟩)
          · exact .inl (kept b o (fun y z => hb ⟨y, z⟩) e)
        · by_cases hb : ∃ y, (b, y) ∈ tabs
          · obtain ⟨y, z⟩ := hb
            obtain ⟨more, e2⟩ := grow z
            exact ⟨_, e2⟩
          · exact ⟨o, kept b o (fun y z => hb ⟨y, z⟩) e⟩
  let T0 : Hp := fun b => if b ∈ tabs.map (·.1) then some (.tbl #[]) else none
  have t_in : ∀ {b : Addr}, b ∈ tabs.map (·.1) → T0 b = some (.tbl #[]) := fun h => if_pos h
  have t_out : ∀ {b : Addr}, b ∉ tabs.map (·.1) → T0 b = none := fun h => if_neg h
  have t_ok : ∀ b u, T0 b = some u → ObjOk P w T0 s1.heap b u ∧ u = .tbl #[] := fun b u z => by
    by_cases hb : b ∈ tabs.map (·.1)
    · rw [t_in hb] at z
      cases z
      obtain ⟨q, hq⟩ := mem_tabs hb
      exact ⟨tob hq, rfl⟩
    · rw [t_out hb] at z
      cases z
  cases hk : K.lookup a with
  | some o =>
    have e := KX a o hk
    rw [ha] at e
    cases e
    refine core T0 (fun p hp => t_in (List.mem_map.mpr ⟨p, hp, rfl⟩)) (fun b => ?_) (.inr ⟨_, vs.toArray, _, hk, rfl, rfl, rfl, by rw [List.size_toArray, hi.length]; exact hl, by simpa using rv⟩) (fun b u z => (t_ok b u z).1) (fun b z => ?_) (fun z => absurd (t_out aT) z)
    · by_cases hb : b ∈ tabs.map (·.1)
      · exact .inr (.inl (mem_tabs hb))
      · exact .inl (t_out hb)
    · by_cases hb : b ∈ tabs.map (·.1)
      · exact .inr (mem_tabs hb)
      · exact absurd (t_out hb) z
  | none =>
    have at_ : upd T0 a (.frz { cls := .type "list", data := .seq vs.toArray } (.lst (ns.map V.int))) a = some (.frz { cls := .type "list", data := .seq vs.toArray } (.lst (ns.map V.int))) := upd_same
    refine core (upd T0 a (.frz { cls := .type "list", data := .seq vs.toArray } (.lst (ns.map V.int)))) (fun p hp => ?_) (fun b => ?_) (.inl (.inr ⟨_, at_⟩)) (fun b u z => ?_) (fun b z => ?_) (fun _ => hk)
    · have hp' : p.1 ∈ tabs.map (·.1) := List.mem_map.mpr ⟨p, hp, rfl⟩
      rw [upd_ne (fun z => aT (by rw [← z]; exact hp'))]
      exact t_in hp'
    · by_cases hb : b = a
      · rw [hb]; exact .inr (.inr ⟨_, _, at_⟩)
      · rw [upd_ne hb]
        by_cases hb2 : b ∈ tabs.map (·.1)
        · exact .inr (.inl (mem_tabs hb2))
        · exact .inl (t_out hb2)
    · by_cases hb : b = a
      · rw [hb, at_] at z
        cases z
        rw [hb]
        exact ⟨ha, by rw [List.length_map]; exact hl, vs, _, rv, ha⟩
      · rw [upd_ne hb] at z
        obtain ⟨_, rfl⟩ := t_ok b u z
        exact (t_ok b _ z).1
    · by_cases hb : b = a
      · exact .inl hb
      · rw [upd_ne hb] at z
        by_cases hb2 : b ∈ tabs.map (·.1)
        · exact .inr (mem_tabs hb2)
        · exact absurd (t_out hb2) z
/-- the goal that k_head leaves where lambdas are made -/
theorem walk_ofT {l : PySem.W.OpenLaw} {n k : Nat} {q : Program} {loose : List Str} {XP : (Str → Option Value) → Heap → Prop} {YP : World → Heap → Prop} {d : DefRec} {K : Params → PySem.W.Frag} {sp : World → Sp} {x : Str}
    (hn : l.most = some n) (hn2 : n ≤ sizeLine) (hdf : d.params.defaults = []) (hr : Room k callerA) (hY : ∀ (w : World) (h : Heap), YP w h → (K w.params).In h ∧ ∀ p ∈ tabs, h.get? p.1 = some (PySem.W.tabObj #[]))
    (F : ∀ (w : World) (mg : Str → Option Value) (fa : Addr) (h : Heap), (K w.params).In h → h.Ns mainGlobals mg → mg d.name = some (.ref fa) →
      ∃ fd : FuncData, (∀ (s : Shared) (u : Value), BindsTo s fd ⟨[u], []⟩ [(x, u)]) ∧ (∀ p ∈ tabs, (K w.params).lookup p.1 = none ∧ ∃ c, PySem.W.codeHdIn (K w.params) c p.1 = true) ∧ ∀ base : Heap, (K w.params).In base → base.Ns mainGlobals mg → TabsB base mg → FnG l.prog w (K w.params) mg base CX0 k fa fd [x] (sp w))
    (hsp : ∀ (w : World) (H : Hp) (a : Addr) (ns : List Int), ns.length ≤ n → (∀ p ∈ tabs, H p.1 = some (.tbl #[])) → SqL (K w.params) H a (ns.map V.int) → sp w [.ref a] H (fun v _ => v = .bl true) fun _ _ _ => False) :
    PySem.W.WalkO q loose XP YP l.row.toRowW d [] (fun f vs => PySem.call f vs) := by
  refine Att.attach_call hn hdf (fun w s0 s1 mg mb fa o pm cd doc a vs ns G Y ho hd hcd hmg hobj hints hlen hg => ?_)
  obtain ⟨KX, TX⟩ := hY w _ Y
  obtain ⟨fd, hb, hC, hF⟩ := F w mg fa _ KX G.T.g hmg
  exact law_callT KX G.T.g G.T.b G.T.builtins G.T.nolimit hg TX (fun p hp => (hC p hp).1) (fun p hp => (hC p hp).2) G.T.bmain hobj hints (Nat.le_trans hlen hn2) hr hF hb (fun H hO hS => hsp w H a ns hlen hO hS)
theorem tabO_nil {H : Hp} {P : Addr} {q : Str} (h : H P = some (.tbl #[])) : TabO H P q := ⟨#[], h, True.intro, fun _ cv e => nomatch (show (none : Option Value) = some cv from e)⟩
end DL
namespace DL
open PySem PySem.Spec PyProof.Rows L2
theorem extend_tup (l : Addr) (items : Array Value) (n : Nat) (b : Addr) (items2 : Array Value) (n2 : Nat) (d0 : Option Addr) (sl0 : Array (Option Value)) (hs0 : ¬(!items.isEmpty && Builtin.List.listTooLong (items.size + items2.size)) = true) (hs1 : items.size ≤ sizeLine) (hs2 : items.size + items2.size ≤ sizeLine + 1) :
    Meets (Builtin.«list.extend» ⟨[.ref l, .ref b], []⟩) (fun _ R s => s.heap.get? l = some { cls := .type "list", dict := none, data := .seq items n, slots := #[] } ∧ s.heap.get? b = some { cls := .type "tuple", dict := d0, data := .seq items2 n2, slots := sl0 } ∧ R (.ok (.ret Value.none)) { s with heap := s.heap.update l (Obj.mapSeq fun x => x ++ items2), toks := s.toks }) :=
  .of_wp fun prog w A R s h => by
    obtain ⟨hp, g, d, tk, os⟩ := s
    obtain ⟨hl, hb, h⟩ := h
    have f1 := AutoSeq1.idx_int
    have f2 := AutoSeq1.sub_tuple_tuple
    have f3 := AutoSeq1.sub_list_list
    have f4 := AutoSeq1.sub_tuple_list
    have f5 := AutoSeq1.sub_list_tuple
    have hz2 : (items ++ items2).size ≤ sizeLine + 1 := by rw [Array.size_append]; exact hs2
    wp_walk using (wpAny_updateSeq hl rfl (hz := hs1) (_hz' := hz2)), AutoSeq1.wpAny_loadPart' hl, AutoSeq1.wpAny_loadPart' hb
    exact ⟨_, rfl, h⟩
def rExtT (K : PySem.W.Frag) : V → List V → Hp → VK → Prop := fun x vs H Q => ∃ l b xs zs, x = .ref l ∧ vs = [.ref b] ∧ H l = some (.lst xs) ∧ SqT K H b zs ∧ xs.length + zs.length ≤ sizeLine ∧ Q .non (upd H l (.lst (xs ++ zs)))
theorem mt_extT {X : Cx} : MtM X "list.extend" (rExtT X.K) := by
  intro pins s σ H x vs v us Q I rx rv h
  obtain ⟨l, b, xs, zs, rfl, rfl, hH, hB, hz, q⟩ := h
  cases rx
  obtain ⟨u, rfl, ru⟩ := rv.one
  cases ru
  obtain ⟨z, its, n, r, hl, e⟩ := I.lstM hH
  obtain ⟨its2, r2, ⟨⟨cl0, d0, da0, sl0⟩, e2, hc0, n2, hd0⟩, z2⟩ := I.tuple hB
  have hc0 : cl0 = .type "tuple" := hc0
  have hd0 : da0 = .seq its2.toArray n2 := hd0
  subst hc0 hd0
  have hl2 := r2.length
  have hsz : its.toArray.size + its2.toArray.size ≤ sizeLine := by rw [List.size_toArray, List.size_toArray, ← hl, ← hl2]; exact hz
  have hlong : ¬ (!its.toArray.isEmpty && Builtin.List.listTooLong (its.toArray.size + its2.toArray.size)) = true := by
    rw [notLongL hsz, Bool.and_false]
    simp
  refine call_meets F.slot_list_extend ⟨_, e, rfl⟩ F.entry_list_extend (F.args_list_extend_2 _ _) (extend_tup l its.toArray n b its2.toArray n2 d0 sl0 hlong (by rw [List.size_toArray]; omega) (by omega)) ⟨e, e2, ?_⟩
  exact ⟨.non, _, I.lset (its' := its ++ its2) hH e (by simp) (r.append r2) (by rw [List.length_append]; omega), rfl, q⟩
variable {S : Type} [SI S]
def sExtT (i : Nat) (f : Ex S) : Sx S := fun ρ s => match ρ[i]? with
  | some (.l ds) => (f ρ s).bind fun y s1 => (match y with
    | .d (.tuple zs) => if ds.length + zs.length ≤ sizeLine then .ok (.nx (ρ.set i (.l (ds ++ zs)))) s1 else .bad
    | _ => .bad)
  | _ => .bad
theorem ds_extT {X : Cx} {B : Bs} {E : XK} {e : Expr} {f : Ex S} {pos : Pos} (c : Ctx X B) (i : Nat) (hp : PE X e (tBM X.K "list" (rExtT X.K) (tVar i) (tCons (tB B E f) tNil))) (hs : swapsWith e none pos.line X.env = pure false := by rfl) : DS X B E (.Expr e pos) (sExtT i f) := by
  refine ps_imp (ps_expr hp hs) fun Dd σ H ⟨G, own, ρ, s, R, q⟩ => ?_
  unfold sExtT at q
  cases z : ρ[i]? with
  | none => rw [z] at q; exact q.elim
  | some x =>
    rw [z] at q
    have p := R.sl i x z
    cases x with
    | l ds =>
      obtain ⟨a, ho, hs, xs, hx, r⟩ := p
      refine ⟨_, hs, ty_list hx, ?_⟩
      refine tB.run R _ q.bnd fun y s1 v H1 q1 k1 r1 R1 => ?_
      have hd : a ∉ G.dks := fun z => (R.fre i a ho).2 (R.wf1 a z)
      have hx1 := k1.fr a _ hx hd
      have r' := RpL.kp (R.kp k1) r
      cases y with
      | r _ => exact q1.elim
      | o _ _ => exact q1.elim
      | p _ => exact q1.elim
      | f _ => exact q1.elim
      | d d =>
        cases d with
        | tuple zs =>
          dsimp only at q1
          split at q1
          · rename_i hl
            obtain ⟨b, ys, rfl, hb, ry⟩ := rt_tup r1
            have kp : Kp (Av G own) H1 (upd H1 a (.lst (xs ++ ys))) := by
              refine ⟨fun b ys ht h => ?_, fun b u h n => ?_⟩
              · rw [upd_ne]
                · exact h
                · rintro rfl; rw [hx1] at h; cases h; cases ht
              · rw [upd_ne]
                · exact h
                · rintro rfl; exact n (.inr ⟨i, ho⟩)
            obtain ⟨R2, g2⟩ := R1.chg (x := .l (ds ++ zs)) (o := .lst (xs ++ ys)) ho hs rfl ⟨_, upd_same, RpL.kp kp (r'.app ry)⟩
            exact ⟨a, b, xs, ys, rfl, rfl, hx1, by rw [← c.hK]; exact hb.sq, by rw [r.len, ry.len]; exact hl, q1 own σ _ R2 ((Gone.of_stp k1).trans R1 g2)⟩
          · exact q1.elim
        | _ => exact q1.elim
    | _ => exact q.elim
end DL
namespace DL
open PySem PySem.Spec PyProof.Rows L2
variable {S : Type} [SI S]
theorem rvl2 {B : Bs} {A : Addr → Prop} {H : Hp} {vs : List V} {x y : Val} (h : RvL B A H vs [x, y]) : ∃ v w, vs = [v, w] ∧ RvV B A H v x ∧ RvV B A H w y := by
  cases h with
  | cons h1 t =>
    cases t with
    | cons h2 t2 =>
      cases t2
      exact ⟨_, _, rfl, h1, h2⟩
theorem di_zipV {X : Cx} {B : Bs} {E : XK} {cmp : Bool} {a b : Expr} {g : Exs S} {p pos : Pos} (hB : B.K = X.K) {elts : List Expr} {kk : Nat} {tpos : Pos} (hm : X.mg "zip" = none) (ha : DV X B E [a, b] g) (hg : Gl X "zip" := by rfl)
    (hs : starEach [a, b] X.env = (false, eval a X.env) :: starEach [b] X.env := by rfl) (hpl : (backTo pos (starEach [b] X.env)).any (·.1) = false := by rfl) : DI X B E cmp (.Tuple elts kk tpos) (.Call (.Name "zip" p) [a, b] [] pos) (iZip g) := by
  refine pi_imp (RZ.pi_zipA hg hm ha hs hpl) fun σ H R' ⟨G, own, ρ, s, R, q⟩ => ?_
  refine ⟨G, own, ρ, s, R, q.bnd.mono fun ys s1 q1 vs H1 k1 r1 => ?_⟩
  have R1 := R.stp k1
  have ls : ∀ {v : V} {ds : List D}, RvV B (Av G own) H1 v (.d (.list ds)) → ∃ a xs, v = .ref a ∧ H1 a = some (.lst xs) ∧ ¬ Chg G own cmp a ∧ RpL B (Av G own) H1 xs ds := fun {v ds} h => by
    have h2 : Rp B (Av G own) H1 v (.list ds) := h
    cases h2 with
    | lst h3 n r => exact ⟨_, _, rfl, h3, fun z => n (Chg.av R1 z), r⟩
  split at q1
  · obtain ⟨v, w, rfl, r, r'⟩ := rvl2 r1
    obtain ⟨u, xs, rfl, h, n, rx⟩ := ls r
    obtain ⟨u', xs', rfl, h', n', rx'⟩ := ls r'
    exact ⟨u, u', xs, xs', rfl, .inl ⟨SqL.of h, SqL.of h', q1 _ H1 k1 (it_zip R1 h n rx h' n' rx')⟩⟩
  · obtain ⟨v, w, rfl, r, r'⟩ := rvl2 r1
    obtain ⟨u, xs, rfl, h, rx⟩ := rt_tup (.of (N := fun _ => False) r)
    obtain ⟨u', xs', rfl, h', rx'⟩ := rt_tup (.of (N := fun _ => False) r')
    exact ⟨u, u', xs, xs', rfl, .inr ⟨by rw [← hB]; exact h.sq, by rw [← hB]; exact h'.sq, q1 _ H1 k1 (by rw [← hB]; exact it_zipT R1 h rx h' rx')⟩⟩
  · exact q1.elim
end DL
namespace DL
open PySem PySem.Spec PyProof.Rows L2
section
variable {S : Type} {α β : Type} {T : Exn → S → Prop}
def W0 (T : Exn → S → Prop) (o : Out S α) (Q : α → S → Prop) : Prop := match o with
  | .ok a s => Q a s
  | .ex e s => T e s
  | .bad => False
/-- a box, so that no reduction looks inside -/
structure WT (T : Exn → S → Prop) (o : Out S α) (Q : α → S → Prop) : Prop where
  box ::
  out : W0 T o Q
/-- no exception -/
def F0 : Exn → S → Prop := fun _ _ => False
abbrev W (o : Out S α) (Q : α → S → Prop) : Prop := WT F0 o Q
theorem WT.ok {o : Out S α} {Q : α → S → Prop} (h : WT F0 o Q) : ∃ a s, o = .ok a s ∧ Q a s := by
  obtain ⟨h⟩ := h
  cases o with
  | ok a s => exact ⟨a, s, rfl, h⟩
  | bad => exact h.elim
  | ex _ _ => exact h.elim
theorem WT.parts {o : Out S α} {Q : α → S → Prop} (h : WT T o Q) : (∃ a s, o = .ok a s ∧ Q a s) ∨ ∃ e s, o = .ex e s ∧ T e s := by
  obtain ⟨h⟩ := h
  cases o with
  | ok a s => exact .inl ⟨a, s, rfl, h⟩
  | bad => exact h.elim
  | ex e s => exact .inr ⟨e, s, rfl, h⟩
theorem w_ok {Q : α → S → Prop} {a : α} {s : S} (q : Q a s) : WT T (.ok a s) Q := ⟨q⟩
theorem WT.get {Q : α → S → Prop} {a : α} {s : S} (h : WT T (.ok a s) Q) : Q a s := h.out
theorem w_of {o : Out S α} {Q : α → S → Prop} {a : α} {s : S} (e : o = .ok a s) (q : Q a s) : WT T o Q := by rw [e]; exact ⟨q⟩
theorem WT.mono {o : Out S α} {Q Q' : α → S → Prop} (h : WT T o Q) (k : ∀ a s, Q a s → Q' a s) : WT T o Q' := by
  rcases h.parts with ⟨a, s, rfl, q⟩ | ⟨a, s, rfl, q⟩
  · exact ⟨k _ _ q⟩
  · exact ⟨q⟩
theorem w_bind {o : Out S α} {f : α → S → Out S β} {Q : β → S → Prop} (h : WT T o fun a s => WT T (f a s) Q) : WT T (o.bind f) Q := by
  rcases h.parts with ⟨a, s, rfl, q⟩ | ⟨a, s, rfl, q⟩
  · exact q
  · exact ⟨q⟩
theorem w_noex {o : Out S α} {Q : α → S → Prop} (h : W o Q) : WT T (noex o) Q := by
  obtain ⟨a, s, rfl, q⟩ := h.ok
  exact ⟨q⟩
theorem w_bindP {o : Out S α} {f : α → S → Out S β} {Q : β → S → Prop} (h : WT T o fun a s => W0 T (f a s) Q) : WT T (o.bind f) Q := by
  rcases h.parts with ⟨a, s, rfl, q⟩ | ⟨a, s, rfl, q⟩
  · exact ⟨q⟩
  · exact ⟨q⟩
theorem WT.eq {o : Out S α} {a : α} {s : S} (h : WT F0 o fun x s' => x = a ∧ s' = s) : o = .ok a s := by
  obtain ⟨_, _, e, rfl, rfl⟩ := h.ok
  exact e
theorem w_eq {o : Out S α} {a : α} {s : S} (h : W o fun x s' => x = a ∧ s' = s) : o = .ok a s := WT.eq h
theorem W.ok {o : Out S α} {Q : α → S → Prop} (h : W o Q) : ∃ a s, o = .ok a s ∧ Q a s := WT.ok h
theorem W.get {Q : α → S → Prop} {a : α} {s : S} (h : W (.ok a s) Q) : Q a s := h.out
theorem W.mono {o : Out S α} {Q Q' : α → S → Prop} (h : W o Q) (k : ∀ a s, Q a s → Q' a s) : W o Q' := WT.mono h k
theorem W.eq {o : Out S α} {a : α} {s : S} (h : W o fun x s' => x = a ∧ s' = s) : o = .ok a s := WT.eq h
/-- what is plain, and the rest -/
def Ck (p q : Prop) : Prop := p ∧ q
theorem ck {p q : Prop} (e : p) (h : q) : Ck p q := ⟨e, h⟩
/-- a display is no longer than a line -/
def LenOk (ds : List D) (q : Prop) : Prop := ds.length ≤ sizeLine ∧ q
theorem lenok {ds : List D} {q : Prop} (e : ds.length ≤ 1000) (h : q) : LenOk ds q := ⟨Nat.le_trans e (by rw [sizeLine_eq]; decide), h⟩
def FlK (k : Env → S → Prop) (Q : Fl → S → Prop) (fl : Fl) (s : S) : Prop := match fl with
  | .nx ρ => k ρ s
  | x => Q x s
theorem flk_nx {k : Env → S → Prop} {Q : Fl → S → Prop} {ρ : Env} {s : S} (h : k ρ s) : FlK k Q (.nx ρ) s := h
theorem flk_rt {k : Env → S → Prop} {Q : Fl → S → Prop} {y : Val} {s : S} (h : Q (.rt y) s) : FlK k Q (.rt y) s := h
theorem flk_bk {k : Env → S → Prop} {Q : Fl → S → Prop} {y : Env} {s : S} (h : Q (.bk y) s) : FlK k Q (.bk y) s := h
theorem flk_ct {k : Env → S → Prop} {Q : Fl → S → Prop} {y : Env} {s : S} (h : Q (.ct y) s) : FlK k Q (.ct y) s := h
/-- what a body gives back -/
def RtK (Q : Val → S → Prop) (fl : Fl) (s : S) : Prop := match fl with
  | .rt y => Q y s
  | .nx _ => Q (.d .none) s
  | _ => False
theorem rtk_rt {Q : Val → S → Prop} {y : Val} {s : S} (h : Q y s) : RtK Q (.rt y) s := h
theorem rtk_nx {Q : Val → S → Prop} {ρ : Env} {s : S} (h : Q (.d .none) s) : RtK Q (.nx ρ) s := h
/-- a turn of a loop -/
def LpK (k : Env → S → Prop) (Q : Fl → S → Prop) (fl : Fl) (s : S) : Prop := match fl with
  | .nx ρ => k ρ s
  | .ct ρ => k ρ s
  | .bk ρ => Q (.nx ρ) s
  | .rt y => Q (.rt y) s
  | .rg y ρ => Q (.rg y ρ) s
theorem lpk_nx {k : Env → S → Prop} {Q : Fl → S → Prop} {ρ : Env} {s : S} (h : k ρ s) : LpK k Q (.nx ρ) s := h
theorem lpk_ct {k : Env → S → Prop} {Q : Fl → S → Prop} {ρ : Env} {s : S} (h : k ρ s) : LpK k Q (.ct ρ) s := h
theorem lpk_bk {k : Env → S → Prop} {Q : Fl → S → Prop} {ρ : Env} {s : S} (h : Q (.nx ρ) s) : LpK k Q (.bk ρ) s := h
theorem lpk_rt {k : Env → S → Prop} {Q : Fl → S → Prop} {y : Val} {s : S} (h : Q (.rt y) s) : LpK k Q (.rt y) s := h
/-- a parting of ways -/
def Br (b : Bool) (p q : Prop) : Prop := if b then p else q
theorem br_t {p q : Prop} (h : p) : Br true p q := h
theorem br_f {p q : Prop} (h : q) : Br false p q := h
theorem br {b : Bool} {p q : Prop} (h : b = true → p) (k : b = false → q) : Br b p q := by
  cases b
  · exact k rfl
  · exact h rfl
theorem br_dec {P : Prop} [Decidable P] {p q : Prop} (h : P → p) (k : ¬ P → q) : Br (decide P) p q := br (fun e => h (of_decide_eq_true e)) fun e => k (of_decide_eq_false e)
theorem br_ndec {P : Prop} [Decidable P] {p q : Prop} (h : ¬ P → p) (k : P → q) : Br (!decide P) p q := br (fun e => h (by simpa using e)) fun e => k (by simpa using e)
/-- an environment, written out -/
def Stt (ρ : Env) (k : Env → Prop) : Prop := k ρ
theorem stt_z {a y : Sl} {as : Env} {k : Env → Prop} (h : k (y :: as)) : Stt ((a :: as).set 0 y) k := h
theorem stt_s {a y : Sl} {as : Env} {i : Nat} {k : Env → Prop} (h : Stt (as.set i y) fun r => k (a :: r)) : Stt ((a :: as).set (i + 1) y) k := h
variable {ρ : Env} {s : S} {i j n : Nat} {f fa fb fc : Ex S} {g : Exs S}
theorem w_var {y : Val} {Q : Val → S → Prop} (e : ρ[i]? = some (.v y)) (q : Q y s) : WT T (eVar i ρ s) Q := by unfold eVar; rw [e]; (first | exact q | exact ⟨q⟩ | exact WT.get q)
theorem w_bvar {y : Val} {Q : Val → S → Prop} (e : ρ[i]? = some (.v y)) (q : Q y s) : WT T (bVar i ρ s) Q := by unfold bVar; rw [e]; (first | exact q | exact ⟨q⟩ | exact WT.get q)
theorem w_bvarL {ds : List D} {Q : Val → S → Prop} (e : ρ[i]? = some (.l ds)) (q : Q (.d (.list ds)) s) : WT T (bVar i ρ s) Q := by unfold bVar; rw [e]; (first | exact q | exact ⟨q⟩ | exact WT.get q)
theorem w_bvarM {ds : List (D × D)} {Q : Val → S → Prop} (e : ρ[i]? = some (.m ds)) (q : Q (.d (.dict ds)) s) : WT T (bVar i ρ s) Q := by unfold bVar; rw [e]; (first | exact q | exact ⟨q⟩ | exact WT.get q)
theorem w_c {d : D} {Q : Val → S → Prop} (q : Q (.d d) s) : WT T (eC d ρ s) Q := (by first | exact q | exact ⟨q⟩ | exact WT.get q)
def BV (op : D → D → Option D) (x y : Val) (s : S) (Q : Val → S → Prop) : Prop := ∃ p q r, x = .d p ∧ y = .d q ∧ op p q = some r ∧ Q (.d r) s
theorem bv {op : D → D → Option D} {p q r : D} {Q : Val → S → Prop} (e : op p q = some r) (h : Q (.d r) s) : BV op (.d p) (.d q) s Q := ⟨p, q, r, rfl, rfl, e, h⟩
theorem w_bin {op : D → D → Option D} {Q : Val → S → Prop} (h : WT T (fa ρ s) fun x s1 => WT T (fb ρ s1) fun y s2 => BV op x y s2 Q) : WT T (eBin op fa fb ρ s) Q :=
  w_bind (h.mono fun x s1 h => w_bind (h.mono fun y s2 ⟨p, q, r, hx, hy, e, z⟩ => by subst hx hy; show WT T (match op p q with | some r => .ok (.d r) s2 | none => .bad) Q; rw [e]; (first | exact z | exact ⟨z⟩ | exact WT.get z)))
def UV (op : D → Option D) (x : Val) (s : S) (Q : Val → S → Prop) : Prop := ∃ p r, x = .d p ∧ op p = some r ∧ Q (.d r) s
theorem uv {op : D → Option D} {p r : D} {Q : Val → S → Prop} (e : op p = some r) (h : Q (.d r) s) : UV op (.d p) s Q := ⟨p, r, rfl, e, h⟩
theorem w_un {op : D → Option D} {Q : Val → S → Prop} (h : WT T (fa ρ s) fun x s1 => UV op x s1 Q) : WT T (eUn op fa ρ s) Q :=
  w_bind (h.mono fun x s1 ⟨p, r, hx, e, z⟩ => by subst hx; show WT T (match op p with | some r => .ok (.d r) s1 | none => .bad) Q; rw [e]; (first | exact z | exact ⟨z⟩ | exact WT.get z))
theorem w_anil {Q : List Val → S → Prop} (q : Q [] s) : WT T (aNil ρ s) Q := (by first | exact q | exact ⟨q⟩ | exact WT.get q)
theorem w_acons {Q : List Val → S → Prop} (h : WT T (f ρ s) fun x s1 => WT T (g ρ s1) fun xs s2 => Q (x :: xs) s2) : WT T (aCons f g ρ s) Q := w_bind (h.mono fun x s1 h => w_bindP h)
/-- a truth -/
def TV (x : Val) (s : S) (Q : Bool → S → Prop) : Prop := ∃ b, x = .d (.bool b) ∧ Q b s
theorem tv {b : Bool} {Q : Bool → S → Prop} (h : Q b s) : TV (.d (.bool b)) s Q := ⟨b, rfl, h⟩
theorem w_tof {Q : Bool → S → Prop} (h : WT T (f ρ s) fun x s1 => TV x s1 Q) : WT T (tOf f ρ s) Q := w_bind (h.mono fun x s1 ⟨b, hx, z⟩ => by subst hx; (first | exact z | exact ⟨z⟩ | exact WT.get z))
variable {c c1 c2 : DL.Tx S}
theorem w_not {Q : Bool → S → Prop} (h : WT T (c ρ s) fun b s1 => Q (!b) s1) : WT T (xNot c ρ s) Q := w_bindP h
theorem w_and {Q : Bool → S → Prop} (h : WT T (c1 ρ s) fun b s1 => Br b (WT T (c2 ρ s1) Q) (Q false s1)) : WT T (xAnd c1 c2 ρ s) Q := w_bind (h.mono fun b s1 h => by cases b <;> (first | exact h | exact ⟨h⟩ | exact WT.get h))
theorem w_or {Q : Bool → S → Prop} (h : WT T (c1 ρ s) fun b s1 => Br b (Q true s1) (WT T (c2 ρ s1) Q)) : WT T (xOr c1 c2 ρ s) Q := w_bind (h.mono fun b s1 h => by cases b <;> (first | exact h | exact ⟨h⟩ | exact WT.get h))
theorem w_yes {Q : Bool → S → Prop} (h : Q true s) : WT T (xYes ρ s) Q := (by first | exact h | exact ⟨h⟩ | exact WT.get h)
theorem w_enot {Q : Val → S → Prop} (h : WT T (f ρ s) fun x s1 => TV x s1 fun b s2 => Q (.d (.bool (!b))) s2) : WT T (eNot f ρ s) Q := w_bind (h.mono fun x s1 ⟨b, hx, z⟩ => by subst hx; (first | exact z | exact ⟨z⟩ | exact WT.get z))
theorem w_eand {Q : Val → S → Prop} (h : WT T (fa ρ s) fun x s1 => TV x s1 fun b s2 => Br b (WT T (fb ρ s2) Q) (Q (.d (.bool false)) s2)) : WT T (eAnd fa fb ρ s) Q := w_bind (h.mono fun x s1 ⟨b, hx, z⟩ => by subst hx; cases b <;> (first | exact z | exact ⟨z⟩ | exact WT.get z))
theorem w_eor {Q : Val → S → Prop} (h : WT T (fa ρ s) fun x s1 => TV x s1 fun b s2 => Br b (Q (.d (.bool true)) s2) (WT T (fb ρ s2) Q)) : WT T (eOr fa fb ρ s) Q := w_bind (h.mono fun x s1 ⟨b, hx, z⟩ => by subst hx; cases b <;> (first | exact z | exact ⟨z⟩ | exact WT.get z))
theorem w_eif {Q : Val → S → Prop} (h : WT T (c ρ s) fun b s1 => Br b (WT T (fa ρ s1) Q) (WT T (fb ρ s1) Q)) : WT T (eIf c fa fb ρ s) Q := w_bind (h.mono fun b s1 h => by cases b <;> exact h)
theorem w_chain {r r' : D → D → Option D} {Q : Val → S → Prop} (h : WT T (fa ρ s) fun x s1 => WT T (fb ρ s1) fun y s2 => BV r x y s2 fun t s3 => TV t s3 fun b s4 => Br b (WT T (fc ρ s4) fun z s5 => BV r' y z s5 Q) (Q (.d (.bool false)) s4)) : WT T (eChain r r' fa fb fc ρ s) Q := by
  refine w_bind (h.mono fun x s1 h => w_bind (h.mono fun y s2 h => ?_))
  obtain ⟨p, q, t, rfl, rfl, e, b, ht, z⟩ := h
  cases ht
  cases b with
  | false =>
    show WT T (match r p q with | some (.bool true) => _ | some (.bool false) => _ | _ => _) Q
    rw [e]
    (first | exact z | exact ⟨z⟩ | exact WT.get z)
  | true =>
    show WT T (match r p q with | some (.bool true) => _ | some (.bool false) => _ | _ => _) Q
    rw [e]
    refine w_bind (WT.mono z fun w s5 h => ?_)
    obtain ⟨p', q', t', h1, rfl, e', z'⟩ := h
    injection h1 with h1
    rw [← h1] at e'
    simp only [e']
    (first | exact z' | exact ⟨z'⟩ | exact WT.get z')
def DV_ (ys : List Val) (s : S) (Q : List D → S → Prop) : Prop := ∃ ds, datas ys = some ds ∧ Q ds s
theorem dvs {ds : List D} {ys : List Val} {Q : List D → S → Prop} (e : datas ys = some ds) (h : Q ds s) : DV_ ys s Q := ⟨ds, e, h⟩
theorem w_seqD {mk : List D → D} {Q : Val → S → Prop} (h : WT T (g ρ s) fun ys s1 => DV_ ys s1 fun ds s2 => LenOk ds (Q (.d (mk ds)) s2)) : WT T (eSeq mk g ρ s) Q :=
  w_bind (h.mono fun ys s1 ⟨ds, e, hl, z⟩ => by show WT T (match datas ys with | some ds => _ | none => _) Q; rw [e]; show WT T (if ds.length ≤ sizeLine then _ else _) Q; rw [if_pos hl]; (first | exact z | exact ⟨z⟩ | exact WT.get z))
theorem w_onone {Q : Option Int → S → Prop} (q : Q none s) : WT T (oNone ρ s) Q := (by first | exact q | exact ⟨q⟩ | exact WT.get q)
def IV (x : Val) (s : S) (Q : Int → S → Prop) : Prop := ∃ b, x = .d (.int b) ∧ Q b s
theorem iv {b : Int} {Q : Int → S → Prop} (h : Q b s) : IV (.d (.int b)) s Q := ⟨b, rfl, h⟩
theorem w_osome {Q : Option Int → S → Prop} (h : WT T (f ρ s) fun x s1 => IV x s1 fun b s2 => Q (some b) s2) : WT T (oSome f ρ s) Q := w_bind (h.mono fun x s1 ⟨b, hx, z⟩ => by subst hx; (first | exact z | exact ⟨z⟩ | exact WT.get z))
theorem w_sl {fl fh : Ox S} {Q : Val → S → Prop} (h : WT T (fa ρ s) fun x s1 => WT T (fl ρ s1) fun l s2 => WT T (fh ρ s2) fun h s3 => UV (fun d => opSl d l h) x s3 Q) : WT T (eSl fa fl fh ρ s) Q :=
  w_bind (h.mono fun x s1 h => w_bind (h.mono fun l s2 h => w_bind (h.mono fun u s3 ⟨p, r, hx, e, z⟩ => by subst hx; show WT T (match (fun d => opSl d l u) p with | some r => .ok (.d r) s3 | none => .bad) Q; rw [e]; (first | exact z | exact ⟨z⟩ | exact WT.get z))))
def CV (op : List D → Option D) (ys : List Val) (s : S) (Q : Val → S → Prop) : Prop := ∃ ds z, datas ys = some ds ∧ op ds = some z ∧ Q (.d z) s
theorem cv {op : List D → Option D} {ys : List Val} {ds : List D} {z : D} {Q : Val → S → Prop} (e : datas ys = some ds) (e' : op ds = some z) (h : Q (.d z) s) : CV op ys s Q := ⟨ds, z, e, e', h⟩
theorem cv1 {op : List D → Option D} {d z : D} {Q : Val → S → Prop} (e' : op [d] = some z) (h : Q (.d z) s) : CV op [.d d] s Q := ⟨[d], z, rfl, e', h⟩
theorem w_call {op : List D → Option D} {Q : Val → S → Prop} (h : WT T (g ρ s) fun ys s1 => CV op ys s1 Q) : WT T (eCall op g ρ s) Q :=
  w_bind (h.mono fun ys s1 ⟨ds, z, e, e', q⟩ => by show WT T (match datas ys with | some ds => _ | none => _) Q; rw [e]; show WT T (match op ds with | some z => .ok (.d z) s1 | none => .bad) Q; rw [e']; (first | exact q | exact ⟨q⟩ | exact WT.get q))
def Fw (n : Nat) (F : List Val → S → Out S Val) (ys : List Val) (s : S) (Q : Val → S → Prop) : Prop := ys.length = n ∧ W (F ys s) Q
theorem fw {F : List Val → S → Out S Val} {ys : List Val} {Q : Val → S → Prop} (e : ys.length = n) (h : W (F ys s) Q) : Fw n F ys s Q := ⟨e, h⟩
theorem w_fn {F : List Val → S → Out S Val} {Q : Val → S → Prop} (h : WT T (g ρ s) fun ys s1 => Fw n F ys s1 Q) : WT T (eFn n F g ρ s) Q :=
  w_bind (h.mono fun ys s1 ⟨e, q⟩ => by show WT T (if ys.length = n then _ else _) Q; rw [if_pos e]; exact w_noex q)
def HV (x : Val) (s : S) (Q : Val → S → Prop) : Prop := ∃ d, x = .d d ∧ hard d = true ∧ Q (.d d) s
theorem hv {d : D} {Q : Val → S → Prop} (e : hard d = true) (h : Q (.d d) s) : HV (.d d) s Q := ⟨d, rfl, e, h⟩
variable {f' : Lx S}
theorem w_eL {Q : Val → S → Prop} (h : WT T (f' ρ s) fun ds s1 => Q (.d (.list ds)) s1) : WT T (eL f' ρ s) Q := w_bindP h
theorem w_lseq {Q : List D → S → Prop} (h : WT T (g ρ s) fun ys s1 => DV_ ys s1 fun ds s2 => LenOk ds (Q ds s2)) : WT T (lSeq g ρ s) Q :=
  w_bind (h.mono fun ys s1 ⟨ds, e, hl, z⟩ => by show WT T (match datas ys with | some ds => _ | none => _) Q; rw [e]; show WT T (if ds.length ≤ sizeLine then _ else _) Q; rw [if_pos hl]; (first | exact z | exact ⟨z⟩ | exact WT.get z))
def SV (x : Val) (s : S) (Q : List D → S → Prop) : Prop := ∃ ds, (x = .d (.list ds) ∨ x = .d (.tuple ds)) ∧ Q ds s
theorem sv_l {ds : List D} {Q : List D → S → Prop} (h : Q ds s) : SV (.d (.list ds)) s Q := ⟨ds, .inl rfl, h⟩
theorem sv_t {ds : List D} {Q : List D → S → Prop} (h : Q ds s) : SV (.d (.tuple ds)) s Q := ⟨ds, .inr rfl, h⟩
theorem w_iseq {Q : List D → S → Prop} (h : WT T (f ρ s) fun x s1 => SV x s1 Q) : WT T (iSeq f ρ s) Q := w_bind (h.mono fun x s1 ⟨ds, hx, z⟩ => by rcases hx with rfl | rfl <;> (first | exact z | exact ⟨z⟩ | exact WT.get z))
theorem w_lof {Q : List D → S → Prop} (h : WT T (f ρ s) fun x s1 => SV x s1 Q) : WT T (lOf f ρ s) Q := w_iseq h
def R1 (ys : List Val) (s : S) (Q : List D → S → Prop) : Prop := ∃ j, ys = [.d (.int j)] ∧ small62 j = true ∧ Q (rngD 0 j.toNat) s
theorem r1 {j : Int} {Q : List D → S → Prop} (e : small62 j = true) (h : Q (rngD 0 j.toNat) s) : R1 [.d (.int j)] s Q := ⟨j, rfl, e, h⟩
theorem w_rg1 {Q : List D → S → Prop} (h : WT T (g ρ s) fun ys s1 => R1 ys s1 Q) : WT T (iRg1 g ρ s) Q := w_bind (h.mono fun ys s1 ⟨j, hy, e, z⟩ => by subst hy; show WT T (if small62 j = true then _ else _) Q; rw [if_pos e]; (first | exact z | exact ⟨z⟩ | exact WT.get z))
def R2_ (ys : List Val) (s : S) (Q : List D → S → Prop) : Prop := ∃ i j, ys = [.d (.int i), .d (.int j)] ∧ (small62 i && small62 j) = true ∧ Q (rngD i (j - i).toNat) s
theorem r2 {i j : Int} {Q : List D → S → Prop} (e : (small62 i && small62 j) = true) (h : Q (rngD i (j - i).toNat) s) : R2_ [.d (.int i), .d (.int j)] s Q := ⟨i, j, rfl, e, h⟩
theorem w_rg2 {Q : List D → S → Prop} (h : WT T (g ρ s) fun ys s1 => R2_ ys s1 Q) : WT T (iRg2 g ρ s) Q := w_bind (h.mono fun ys s1 ⟨i, j, hy, e, z⟩ => by subst hy; show WT T (if (small62 i && small62 j) = true then _ else _) Q; rw [if_pos e]; (first | exact z | exact ⟨z⟩ | exact WT.get z))
def R3_ (ys : List Val) (s : S) (Q : List D → S → Prop) : Prop := ∃ i j, ys = [.d (.int i), .d (.int j), .d (.int (-1))] ∧ (small62 i && small62 j) = true ∧ Q (rngC i (-1) (i - j).toNat) s
theorem r3 {i j : Int} {Q : List D → S → Prop} (e : (small62 i && small62 j) = true) (h : Q (rngC i (-1) (i - j).toNat) s) : R3_ [.d (.int i), .d (.int j), .d (.int (-1))] s Q := ⟨i, j, rfl, e, h⟩
theorem w_rg3 {Q : List D → S → Prop} (h : WT T (g ρ s) fun ys s1 => R3_ ys s1 Q) : WT T (iRg3 g ρ s) Q := w_bind (h.mono fun ys s1 ⟨i, j, hy, e, z⟩ => by subst hy; show WT T (if (small62 i && small62 j) = true then _ else _) Q; rw [if_pos e]; (first | exact z | exact ⟨z⟩ | exact WT.get z))
def ZV (ys : List Val) (s : S) (Q : List D → S → Prop) : Prop := ∃ a b, (ys = [.d (.list a), .d (.list b)] ∨ ys = [.d (.tuple a), .d (.tuple b)]) ∧ Q (zipD a b) s
theorem zv_l {a b : List D} {Q : List D → S → Prop} (h : Q (zipD a b) s) : ZV [.d (.list a), .d (.list b)] s Q := ⟨a, b, .inl rfl, h⟩
theorem zv_t {a b : List D} {Q : List D → S → Prop} (h : Q (zipD a b) s) : ZV [.d (.tuple a), .d (.tuple b)] s Q := ⟨a, b, .inr rfl, h⟩
theorem w_zip {Q : List D → S → Prop} (h : WT T (g ρ s) fun ys s1 => ZV ys s1 Q) : WT T (iZip g ρ s) Q := w_bind (h.mono fun ys s1 ⟨a, b, hx, z⟩ => by rcases hx with rfl | rfl <;> (first | exact z | exact ⟨z⟩ | exact WT.get z))
variable {bt : Bt} {vs : List Nat}
theorem w_lc {it : Lx S} {Q : List D → S → Prop} (h : WT T (it ρ s) fun ds s1 => ds.length ≤ sizeLine ∧ WT T (lcL bt c f (wipeE vs ρ) ds s1) Q) : WT T (lLc it bt c f vs ρ s) Q :=
  w_bind (h.mono fun ds s1 ⟨hl, z⟩ => by show WT T (if ds.length ≤ sizeLine then _ else _) Q; rw [if_pos hl]; exact z)
/-- one item of a comprehension -/
def ItemW (bt : Bt) (c : DL.Tx S) (f : Ex S) (ρ : Env) (d : D) (s : S) (Q : Option D → S → Prop) : Prop := ∃ ρ1, bt d ρ = some ρ1 ∧ W (c ρ1 s) fun b s1 => Br b (W (f ρ1 s1) fun y s2 => ∃ z, y = .d z ∧ Q (some z) s2) (Q none s1)
theorem lc_cons {d : D} {ds : List D} {Q : List D → S → Prop} (h : ItemW bt c f ρ d s fun o s1 => WT T (lcL bt c f ρ ds s1) fun r s2 => Q (o.toList ++ r) s2) : WT T (lcL bt c f ρ (d :: ds) s) Q := by
  obtain ⟨ρ1, e, h⟩ := h
  unfold lcL
  rw [e]
  refine w_bind (w_noex (h.mono fun b s1 h => ?_))
  cases b with
  | false => exact WT.mono h fun r s2 q => q
  | true =>
    refine w_bind (w_noex (WT.mono h fun y s2 ⟨z, hy, q⟩ => ?_))
    subst hy
    exact w_bindP q
/-- a comprehension by an invariant: what it has found so far -/
theorem lc_inv (I : Nat → List D → S → Prop) : ∀ (ds : List D) (n : Nat) (acc : List D) {s : S}, I n acc s → (∀ k d, ds[k]? = some d → ∀ a s, I (n + k) a s → ItemW bt c f ρ d s fun o s1 => I (n + k + 1) (a ++ o.toList) s1) → ∀ {Q : List D → S → Prop}, (∀ r s', I (n + ds.length) (acc ++ r) s' → Q r s') → WT T (lcL bt c f ρ ds s) Q
  | [], n, acc, s, h0, _, Q, q => ⟨q [] s (by simpa using h0)⟩
  | d :: ds, n, acc, s, h0, h, Q, q => by
    refine lc_cons ?_
    obtain ⟨ρ1, e, z⟩ := h 0 d rfl acc s h0
    have go : ∀ (o : Option D) (s1 : S), I (n + 1) (acc ++ o.toList) s1 → WT T (lcL bt c f ρ ds s1) fun r s2 => Q (o.toList ++ r) s2 := fun o s1 h1 =>
      lc_inv I ds (n + 1) (acc ++ o.toList) h1 (fun k d' e a s hI => by
        have hk : n + 1 + k = n + (k + 1) := by omega
        rw [hk] at hI ⊢
        exact h (k + 1) d' (by simpa using e) a s hI) fun r s' hI => q _ s' (by
          rw [List.length_cons, ← List.append_assoc]
          rw [show n + (ds.length + 1) = n + 1 + ds.length by omega]
          exact hI)
    refine ⟨ρ1, e, z.mono fun b s1 z => ?_⟩
    cases b with
    | false => exact go none s1 z
    | true => exact WT.mono z fun y s2 ⟨w, hy, h1⟩ => ⟨w, hy, go (some w) s2 h1⟩
variable {g1 g2 : Sx S} {Q : Fl → S → Prop}
theorem w_nil (q : Q (.nx ρ) s) : WT T (sNil ρ s) Q := (by first | exact q | exact ⟨q⟩ | exact WT.get q)
theorem w_sq (h : WT T (g1 ρ s) (FlK (fun ρ1 s1 => WT T (g2 ρ1 s1) Q) Q)) : WT T (sSeq g1 g2 ρ s) Q := w_bind (h.mono fun fl s1 h => by cases fl <;> (first | exact h | exact ⟨h⟩ | exact WT.get h))
theorem w_brk (q : Q (.bk ρ) s) : WT T (sBrk ρ s) Q := (by first | exact q | exact ⟨q⟩ | exact WT.get q)
theorem w_cnt (q : Q (.ct ρ) s) : WT T (sCnt ρ s) Q := (by first | exact q | exact ⟨q⟩ | exact WT.get q)
theorem w_drop (h : WT T (f ρ s) fun _ s1 => Q (.nx ρ) s1) : WT T (sDrop f ρ s) Q := w_bindP h
theorem w_ret (h : WT T (f ρ s) fun y s1 => Q (.rt y) s1) : WT T (sRet f ρ s) Q := w_bindP h
theorem w_retN (q : Q (.rt (.d .none)) s) : WT T (sRetN ρ s) Q := (by first | exact q | exact ⟨q⟩ | exact WT.get q)
theorem w_if (h : WT T (c ρ s) fun b s1 => Br b (WT T (g1 ρ s1) Q) (WT T (g2 ρ s1) Q)) : WT T (sIf c g1 g2 ρ s) Q := w_bind (h.mono fun b s1 h => by cases b <;> exact h)
theorem w_set (h : WT T (f ρ s) fun y s1 => Stt (ρ.set i (.v y)) fun ρ1 => Q (.nx ρ1) s1) : WT T (sSet i f ρ s) Q := w_bindP h
theorem w_new (h : WT T (f' ρ s) fun ds s1 => Stt (ρ.set i (.l ds)) fun ρ1 => Q (.nx ρ1) s1) : WT T (sNew i f' ρ s) Q := w_bindP h
theorem w_unp (h : WT T (f ρ s) fun y s1 => ∃ d ρ1, y = .d d ∧ bt d ρ = some ρ1 ∧ Q (.nx ρ1) s1) : WT T (sUnp bt f ρ s) Q :=
  w_bind (h.mono fun y s1 ⟨d, ρ1, hy, e, z⟩ => by subst hy; show WT T (match bt d ρ with | some ρ' => .ok (.nx ρ') s1 | none => .bad) Q; rw [e]; (first | exact z | exact ⟨z⟩ | exact WT.get z))
theorem w_frz (h : WT T (g1 (frz i ρ) s) Q) : WT T (sFrz i g1 ρ s) Q := h
theorem w_app {ds : List D} (e : ρ[i]? = some (.l ds)) (h : WT T (f ρ s) fun y s1 => ∃ z, y = .d z ∧ ds.length < sizeLine ∧ Stt (ρ.set i (.l (ds ++ [z]))) fun ρ1 => Q (.nx ρ1) s1) : WT T (sApp i f ρ s) Q := by
  unfold sApp
  rw [e]
  refine w_bind (h.mono fun y s1 ⟨z, hy, hl, q⟩ => ?_)
  subst hy
  show WT T (if ds.length < sizeLine then _ else _) Q
  rw [if_pos hl]
  (first | exact q | exact ⟨q⟩ | exact WT.get q)
theorem w_ext {ds : List D} (e : ρ[i]? = some (.l ds)) (h : WT T (f ρ s) fun y s1 => ∃ zs, y = .d (.list zs) ∧ ds.length + zs.length ≤ sizeLine ∧ Stt (ρ.set i (.l (ds ++ zs))) fun ρ1 => Q (.nx ρ1) s1) : WT T (sExt i f ρ s) Q := by
  unfold sExt
  rw [e]
  refine w_bind (h.mono fun y s1 ⟨z, hy, hl, q⟩ => ?_)
  subst hy
  show WT T (if ds.length + z.length ≤ sizeLine then _ else _) Q
  rw [if_pos hl]
  (first | exact q | exact ⟨q⟩ | exact WT.get q)
theorem w_mnil {Q : List Sl → S → Prop} (q : Q [] s) : WT T (mNil ρ s) Q := (by first | exact q | exact ⟨q⟩ | exact WT.get q)
theorem w_mval {gm : Ms S} {Q : List Sl → S → Prop} (h : WT T (f ρ s) fun y s1 => WT T (gm ρ s1) fun cs s2 => Q (.v y :: cs) s2) : WT T (mVal f gm ρ s) Q := w_bind (h.mono fun y s1 h => w_bindP h)
theorem w_mnew {fn : Nx S} {gm : Ms S} {Q : List Sl → S → Prop} (h : WT T (fn ρ s) fun y s1 => WT T (gm ρ s1) fun cs s2 => Q (y :: cs) s2) : WT T (mNew fn gm ρ s) Q := w_bind (h.mono fun y s1 h => w_bindP h)
theorem w_nL {Q : Sl → S → Prop} (h : WT T (f' ρ s) fun ds s1 => Q (.l ds) s1) : WT T (nL f' ρ s) Q := w_bindP h
theorem w_nD {Q : Sl → S → Prop} (h : Q (.m []) s) : WT T (nD ρ s) Q := (by first | exact h | exact ⟨h⟩ | exact WT.get h)
theorem w_newN {fn : Nx S} (h : WT T (fn ρ s) fun x s1 => Stt (ρ.set i x) fun ρ1 => Q (.nx ρ1) s1) : WT T (sNewN i fn ρ s) Q := w_bindP h
/-- the slots, one after the other -/
def Sts (is : List Nat) (cs : List Sl) (ρ : Env) (k : Env → Prop) : Prop := k (setAll is cs ρ)
theorem sts_c {is : List Nat} {c : Sl} {cs : List Sl} {k : Env → Prop} (h : Stt (ρ.set i c) fun ρ1 => Sts is cs ρ1 k) : Sts (i :: is) (c :: cs) ρ k := h
theorem sts_n {k : Env → Prop} (h : k ρ) : Sts [] [] ρ k := h
theorem w_par {is : List Nat} {gm : Ms S} (h : WT T (gm ρ s) fun cs s1 => Ck (cs.length = is.length) (Sts is cs ρ fun ρ1 => Q (.nx ρ1) s1)) : WT T (sPar is gm ρ s) Q :=
  w_bind (h.mono fun cs s1 ⟨e, q⟩ => by show WT T (if cs.length = is.length then _ else _) Q; rw [if_pos e]; (first | exact q | exact ⟨q⟩ | exact WT.get q))
theorem w_for {it : Lx S} (h : WT T (it ρ s) fun ds s1 => WT T (forL bt g1 ds ρ s1) Q) : WT T (sFor it bt g1 ρ s) Q := w_bind h
theorem for_cons {d : D} {ds : List D} {ρ1 : Env} (e : bt d ρ = some ρ1) (h : WT T (g1 ρ1 s) (LpK (fun ρ2 s2 => WT T (forL bt g1 ds ρ2 s2) Q) Q)) : WT T (forL bt g1 (d :: ds) ρ s) Q := by
  unfold forL
  rw [e]
  refine w_bind (h.mono fun fl s1 h => ?_)
  cases fl <;> (first | exact h | exact ⟨h⟩ | exact WT.get h)
/-- a loop by an invariant -/
theorem for_inv (I : Nat → Env → S → Prop) : ∀ (ds : List D) (n : Nat) {ρ : Env} {s : S}, I n ρ s → (∀ k d, ds[k]? = some d → ∀ ρ s, I (n + k) ρ s → ∃ ρ1, bt d ρ = some ρ1 ∧ WT T (g1 ρ1 s) (LpK (I (n + k + 1)) Q)) → (∀ ρ s, I (n + ds.length) ρ s → Q (.nx ρ) s) → WT T (forL bt g1 ds ρ s) Q
  | [], n, ρ, s, h0, _, q => ⟨q ρ s h0⟩
  | d :: ds, n, ρ, s, h0, h, q => by
    obtain ⟨ρ1, e, z⟩ := h 0 d rfl ρ s h0
    refine for_cons e (z.mono fun fl s1 z => ?_)
    have go : ∀ (ρ2 : Env) (s1 : S), I (n + 1) ρ2 s1 → WT T (forL bt g1 ds ρ2 s1) Q := fun ρ2 s1 h1 =>
      for_inv I ds (n + 1) h1 (fun k d' e ρ s hI => by
        have hk : n + 1 + k = n + (k + 1) := by omega
        rw [hk] at hI ⊢
        exact h (k + 1) d' (by simpa using e) ρ s hI) fun ρ s hI => q ρ s (by
          rw [List.length_cons, show n + (ds.length + 1) = n + 1 + ds.length by omega]
          exact hI)
    cases fl with
    | nx ρ2 => exact go ρ2 s1 z
    | ct ρ2 => exact go ρ2 s1 z
    | bk ρ2 => exact z
    | rt y => exact z
    | rg y ρ2 => exact z
theorem wh_inv (I : Nat → Env → S → Prop) (hI : ∀ m ρ s, I m ρ s → WT T (c ρ s) fun b s1 => Br b (WT T (g1 ρ s1) (LpK (fun ρ2 s2 => ∃ m', m' < m ∧ I m' ρ2 s2) Q)) (Q (.nx ρ) s1)) : ∀ (n m : Nat) {ρ : Env} {s : S}, m < n → I m ρ s → WT T (whL c g1 n ρ s) Q
  | 0, m, _, _, h, _ => absurd h (Nat.not_lt_zero _)
  | n + 1, m, ρ, s, h, h0 => by
    unfold whL
    refine w_bind ((hI m ρ s h0).mono fun b s1 z => ?_)
    cases b with
    | false => (first | exact z | exact ⟨z⟩ | exact WT.get z)
    | true =>
      refine w_bind (WT.mono z fun fl s2 z => ?_)
      cases fl with
      | nx ρ2 => obtain ⟨m', hm, z⟩ := z; exact wh_inv I hI n m' (by omega) z
      | ct ρ2 => obtain ⟨m', hm, z⟩ := z; exact wh_inv I hI n m' (by omega) z
      | bk ρ2 => (first | exact z | exact ⟨z⟩ | exact WT.get z)
      | rt y => (first | exact z | exact ⟨z⟩ | exact WT.get z)
      | rg y ρ2 => (first | exact z | exact ⟨z⟩ | exact WT.get z)
theorem FU_eq : FU = 1000000000 := by unfold FU; rfl
theorem w_while (I : Nat → Env → S → Prop) {m : Nat} (hm : m < 1000000000) (h0 : I m ρ s) (hI : ∀ m ρ s, I m ρ s → WT T (c ρ s) fun b s1 => Br b (WT T (g1 ρ s1) (LpK (fun ρ2 s2 => ∃ m', m' < m ∧ I m' ρ2 s2) Q)) (Q (.nx ρ) s1)) : WT T (sWh FU c g1 ρ s) Q :=
  wh_inv I hI FU m (by rw [FU_eq]; exact hm) h0
theorem w_run {body : Sx S} {ys : List Val} {Q : Val → S → Prop} (h : WT T (body (ys.map .v ++ List.replicate n .no) s) (RtK Q)) : WT T (runF n body ys s) Q :=
  w_bind (h.mono fun fl s1 h => by cases fl <;> (first | exact h | exact ⟨h⟩ | exact WT.get h))
end
section
variable {T : Exn → Dk → Prop} {ρ : Env} {s : Dk} {i j n : Nat} {f : Ex Dk}
theorem isDk_of {a : Addr} (e : ρ[i]? = some (.v (.r (.ref a)))) (h : a = s.dk) : isDk i ρ s = true := by unfold isDk; rw [e, h]; exact beq_self_eq_true _
theorem w_dk {x : Int} {Q : Val → Dk → Prop} (e : ρ[i]? = some (.v (.r (.ref s.dk)))) (ex : s.get j = some x) (q : Q (.d (.int x)) s) : WT T (eDk i j ρ s) Q := by
  unfold eDk; rw [if_pos (isDk_of e rfl), ex]; (first | exact q | exact ⟨q⟩ | exact WT.get q)
theorem w_dkne {Q : Bool → Dk → Prop} (e : ρ[i]? = some (.v (.r (.ref s.dk)))) (q : Q (!s.cells.isEmpty) s) : WT T (xDkNe i ρ s) Q := by
  unfold xDkNe; rw [if_pos (isDk_of e rfl)]; (first | exact q | exact ⟨q⟩ | exact WT.get q)
theorem w_dkl {Q : Val → Dk → Prop} (e : ρ[i]? = some (.v (.r (.ref s.dk)))) (q : Q (.d (.int s.cells.length)) s) : WT T (eDkL i ρ s) Q := by
  unfold eDkL; rw [if_pos (isDk_of e rfl)]; (first | exact q | exact ⟨q⟩ | exact WT.get q)
theorem w_dkc {Q : Val → Dk → Prop} (e : ρ[i]? = some (.v (.r (.ref s.dk)))) (h : WT T (f ρ s) fun y s1 => IV y s1 fun j s1 => Ck (s1 = s) (∃ x, L2.atI s.cells j = some x ∧ Q (.d (.int x)) s)) : WT T (eDkC i f ρ s) Q := by
  unfold eDkC; rw [if_pos (isDk_of e rfl)]
  refine w_bind (h.mono fun y s1 ⟨j, hy, hs, x, e, q⟩ => ?_)
  subst hy hs
  show WT T (if s1.dk = s1.dk ∧ s1.a0 = s1.a0 then _ else _) Q
  rw [if_pos ⟨rfl, rfl⟩, e]
  (first | exact q | exact ⟨q⟩ | exact WT.get q)
theorem w_sdk {Q : Fl → Dk → Prop} {a : Addr} (e : ρ[i]? = some (.v (.r (.ref a)))) (hj : j = 1 ∨ j = 2 ∨ j = 3) (h : WT T (f ρ s) fun y s1 => IV y s1 fun x s1 => Ck (a = s1.dk) (Q (.nx ρ) (s1.put j x))) : WT T (sDk i j f ρ s) Q := by
  unfold sDk
  refine w_bind (h.mono fun y s1 ⟨x, hy, hs, q⟩ => ?_)
  subst hy
  rw [if_pos (isDk_of e hs)]
  show WT T (if j = 1 ∨ j = 2 ∨ j = 3 then _ else _) Q
  rw [if_pos hj]
  (first | exact q | exact ⟨q⟩ | exact WT.get q)
end
end DL
namespace DL
open PySem PySem.Spec PyProof.Rows L2
section
variable {S : Type} {s : S} {Q : Val → S → Prop} {a b : Int} {as bs : List D}
theorem bv_add (q : Q (.d (.int (a + b))) s) : BV opAdd (.d (.int a)) (.d (.int b)) s Q := bv rfl q
theorem bv_addT (q : Q (.d (.tuple (as ++ bs))) s) (h : as.length + bs.length ≤ sizeLine) : BV opAdd (.d (.tuple as)) (.d (.tuple bs)) s Q := bv (by exact if_pos h) q
theorem bv_addL (q : Q (.d (.list (as ++ bs))) s) (h : as.length + bs.length ≤ sizeLine) : BV opAdd (.d (.list as)) (.d (.list bs)) s Q := bv (by exact if_pos h) q
theorem bv_sub (q : Q (.d (.int (a - b))) s) : BV opSub (.d (.int a)) (.d (.int b)) s Q := bv rfl q
theorem bv_mul (q : Q (.d (.int (a * b))) s) (h : (-(2 ^ 64) < a ∧ a < 2 ^ 64) ∨ (-(2 ^ 64) < b ∧ b < 2 ^ 64)) : BV opMul (.d (.int a)) (.d (.int b)) s Q :=
  bv (by exact if_pos (by unfold mulOk; exact decide_eq_true h)) q
theorem bv_mulT (q : Q (.d (.tuple (List.replicate b.toNat as).flatten)) s) (h : -1000 ≤ b ∧ b ≤ 4000 ∧ as.length ≤ 1000) : BV opMul (.d (.tuple as)) (.d (.int b)) s Q :=
  bv (by exact if_pos h) q
theorem bv_div (q : Q (.d (.int (a / b))) s) (h : 0 < b ∧ b < 1073741824) : BV opDiv (.d (.int a)) (.d (.int b)) s Q := bv (by exact if_pos h) q
theorem bv_mod (q : Q (.d (.int (a % b))) s) (h : 0 < b) : BV opMod (.d (.int a)) (.d (.int b)) s Q := bv (by exact if_pos h) q
theorem bv_pow (q : Q (.d (.int (a ^ b.toNat))) s) (h : 0 ≤ b ∧ b ≤ 1000000 ∧ a.natAbs < 2 ^ 64) : BV opPow (.d (.int a)) (.d (.int b)) s Q := bv (by exact if_pos h) q
theorem bv_rel {f : Int → Int → Bool} (q : Q (.d (.bool (f a b))) s) : BV (opRel f) (.d (.int a)) (.d (.int b)) s Q := bv rfl q
theorem bv_eq {d e : D} (q : Q (.d (.bool (PyData.eqv d e))) s) (h : (SeqAt.shaped d && SeqAt.shaped e) = true) : BV opEq (.d d) (.d e) s Q := bv (by exact if_pos h) q
theorem bv_ne {d e : D} (q : Q (.d (.bool (!PyData.eqv d e))) s) (h : (SeqAt.shaped d && SeqAt.shaped e) = true) : BV opNe (.d d) (.d e) s Q := bv (by exact if_pos h) q
theorem uv_neg (q : Q (.d (.int (-a))) s) : UV opNeg (.d (.int a)) s Q := uv rfl q
theorem atI_nat {α : Type} (xs : List α) (n : Nat) : L2.atI xs (n : Int) = xs[n]? := by
  unfold L2.atI L2.ixN
  by_cases h : n < xs.length
  · rw [if_pos (by omega), if_pos (by omega)]
    simp
  · rw [if_pos (by omega), if_neg (by omega), List.getElem?_eq_none (by omega)]
    rfl
theorem atI_get {α : Type} {xs : List α} {i : Int} (h0 : 0 ≤ i) (h1 : i < xs.length) : ∃ h : i.toNat < xs.length, L2.atI xs i = some xs[i.toNat] := by
  obtain ⟨n, rfl⟩ := Int.eq_ofNat_of_zero_le h0
  have hn : n < xs.length := by omega
  refine ⟨by simpa using hn, ?_⟩
  rw [atI_nat, List.getElem?_eq_getElem hn]
  rfl
theorem bv_ix0 {x : D} {xs : List D} (q : Q (.d x) s) : BV opIx (.d (.tuple (x :: xs))) (.d (.int 0)) s Q := bv (by
  show L2.atI (x :: xs) ((0 : Nat) : Int) = some x
  rw [atI_nat]; rfl) q
theorem bv_ix0L {x : D} {xs : List D} (q : Q (.d x) s) : BV opIx (.d (.list (x :: xs))) (.d (.int 0)) s Q := bv (by
  show L2.atI (x :: xs) ((0 : Nat) : Int) = some x
  rw [atI_nat]; rfl) q
theorem cv_lenL (q : Q (.d (.int as.length)) s) : CV oLen [.d (.list as)] s Q := cv1 rfl q
theorem cv_lenT (q : Q (.d (.int as.length)) s) : CV oLen [.d (.tuple as)] s Q := cv1 rfl q
theorem cv_abs (q : Q (.d (.int (if a < 0 then -a else a))) s) : CV oAbs [.d (.int a)] s Q := cv1 rfl q
theorem cv_int (q : Q (.d (.int a)) s) : CV oInt [.d (.int a)] s Q := cv1 rfl q
theorem cv_tupL (q : Q (.d (.tuple as)) s) : CV oTuple [.d (.list as)] s Q := cv1 rfl q
theorem cv_tupT (q : Q (.d (.tuple as)) s) : CV oTuple [.d (.tuple as)] s Q := cv1 rfl q
theorem cv_listL (q : Q (.d (.list as)) s) : CV oList [.d (.list as)] s Q := cv1 rfl q
theorem cv_listT (q : Q (.d (.list as)) s) : CV oList [.d (.tuple as)] s Q := cv1 rfl q
theorem boolsD_map : ∀ ns : List Bool, boolsD (ns.map .bool) = some ns
  | [] => rfl
  | n :: ns => by rw [List.map_cons, boolsD, boolsD_map ns]; rfl
theorem intsD_mapf {α : Type} (f : α → Int) (xs : List α) : intsD (xs.map fun x => PyData.int (f x)) = some (xs.map f) := by rw [← intsD_map, List.map_map]; rfl
theorem boolsD_mapf {α : Type} (f : α → Bool) (xs : List α) : boolsD (xs.map fun x => PyData.bool (f x)) = some (xs.map f) := by rw [← boolsD_map, List.map_map]; rfl
theorem cv_sum {α : Type} {f : α → Int} {xs : List α} (q : Q (.d (.int (xs.map f).sum)) s) : CV oSum [.d (.list (xs.map fun x => PyData.int (f x)))] s Q := cv1 (by show Option.map _ (intsD _) = _; rw [intsD_mapf]; rfl) q
theorem cv_all {α : Type} {f : α → Bool} {xs : List α} (q : Q (.d (.bool (xs.all f))) s) : CV oAll [.d (.list (xs.map fun x => PyData.bool (f x)))] s Q :=
  cv1 (by show Option.map _ (boolsD _) = _; rw [boolsD_mapf]; simp [Function.comp_def]) q
theorem cv_max {α : Type} {f : α → Int} {xs : List α} (q : Q (.d (.int (maxL (xs.map f)))) s) (h : xs ≠ []) : CV oMax [.d (.list (xs.map fun x => PyData.int (f x)))] s Q :=
  cv1 (by show Option.bind (intsD _) _ = _; rw [intsD_mapf]; simp [h]) q
theorem cv_repr {d : D} (q : Q (.d (.str d.shown)) s) (h : d.canLay0 = true ∧ d.showable = true ∧ d.shown.length ≤ sizeLine ∧ d.depth ≤ 60) : CV oRepr [.d d] s Q :=
  cv1 (by exact if_pos (by simp [h.1, h.2.1, h.2.2.1, h.2.2.2])) q
theorem uv_slT {lo hi : Option Int} (q : Q (.d (.tuple (cutL as lo hi))) s) : UV (fun d => opSl d lo hi) (.d (.tuple as)) s Q := uv rfl q
theorem uv_slL {lo hi : Option Int} (q : Q (.d (.list (cutL as lo hi))) s) : UV (fun d => opSl d lo hi) (.d (.list as)) s Q := uv rfl q
/-- all but the last -/
theorem cut_init {α : Type} (xs : List α) : cutL xs none (some (-1)) = xs.dropLast := by
  unfold cutL
  rw [HT.sIx_none]
  have e : HT.sIx xs.length xs.length (some (-1)) = xs.length - 1 := by
    unfold HT.sIx
    simp
    omega
  rw [e]
  simp [List.dropLast_eq_take]
theorem cut_take {α : Type} (xs : List α) (n : Nat) (h : n ≤ xs.length) : cutL xs none (some (n : Int)) = xs.take n := by
  unfold cutL
  rw [HT.sIx_none, HT.sIx_nat]
  simp [h]
theorem cut_drop {α : Type} (xs : List α) (n : Nat) (h : n ≤ xs.length) : cutL xs (some (n : Int)) none = xs.drop n := by
  unfold cutL
  rw [HT.sIx_none, HT.sIx_nat]
  have e : min n xs.length = n := by omega
  rw [e]
  exact List.take_of_length_le (by simp)
theorem rg1 {j : Int} {Q : List D → S → Prop} (h : Q (rngD 0 j.toNat) s) (e : -4611686018427387904 ≤ j ∧ j < 4611686018427387904) : R1 [.d (.int j)] s Q := r1 (decide_eq_true e) h
theorem rg2 {i j : Int} {Q : List D → S → Prop} (h : Q (rngD i (j - i).toNat) s) (e : (-4611686018427387904 ≤ i ∧ i < 4611686018427387904) ∧ -4611686018427387904 ≤ j ∧ j < 4611686018427387904) : R2_ [.d (.int i), .d (.int j)] s Q :=
  r2 (by rw [Bool.and_eq_true]; exact ⟨decide_eq_true e.1, decide_eq_true e.2⟩) h
theorem rg3 {i j : Int} {Q : List D → S → Prop} (h : Q (rngC i (-1) (i - j).toNat) s) (e : (-4611686018427387904 ≤ i ∧ i < 4611686018427387904) ∧ -4611686018427387904 ≤ j ∧ j < 4611686018427387904) : R3_ [.d (.int i), .d (.int j), .d (.int (-1))] s Q :=
  r3 (by rw [Bool.and_eq_true]; exact ⟨decide_eq_true e.1, decide_eq_true e.2⟩) h
theorem dvl_nil {Q : List D → S → Prop} (h : Q [] s) : DV_ [] s Q := dvs rfl h
theorem dvl_cons {d : D} {ys : List Val} {Q : List D → S → Prop} (h : DV_ ys s fun ds s1 => Q (d :: ds) s1) : DV_ (.d d :: ys) s Q := by
  obtain ⟨ds, e, q⟩ := h
  exact dvs (by rw [datas, e]; rfl) q
theorem rng_len (lo : Int) (n : Nat) : (rngD lo n).length = n := by unfold rngD; simp
theorem rng_at {lo : Int} {n k : Nat} {d : D} (h : (rngD lo n)[k]? = some d) : k < n ∧ d = .int (lo + k) := by
  unfold rngD at h
  rw [List.getElem?_map] at h
  by_cases hk : k < n
  · rw [List.getElem?_range hk] at h
    exact ⟨hk, (Option.some.inj h).symm⟩
  · rw [List.getElem?_eq_none (by simpa using hk)] at h
    cases h
theorem sizeLine_big : 1000000 < sizeLine := by rw [sizeLine_eq]; decide
end
section
variable {S : Type} {T : Exn → S → Prop} {s : S} {ρ : Env} {bt : Bt} {c : DL.Tx S} {f : Ex S}
/-- .. over items that are data of something -/
theorem lc_mapOf {α : Type} (e k : α → D) (xs : List α) {Q : List D → S → Prop} (h : ∀ x ∈ xs, ItemW bt c f ρ (e x) s fun o s1 => o = some (k x) ∧ s1 = s) (q : Q (xs.map k) s) : WT T (lcL bt c f ρ (xs.map e) s) Q := by
  induction xs generalizing Q with
  | nil => exact ⟨q⟩
  | cons x xs ih =>
    refine lc_cons ?_
    obtain ⟨ρ1, eb, z⟩ := h x (.head _)
    refine ⟨ρ1, eb, z.mono fun b s1 z => ?_⟩
    cases b with
    | false => exact absurd z.1 (by simp)
    | true =>
      refine WT.mono z fun y s2 ⟨w, hy, h1, hs⟩ => ⟨w, hy, ?_⟩
      rw [hs]
      refine ih (fun d' m => h d' (.tail _ m)) ?_
      rw [h1]
      exact q
theorem lc_someOf {α : Type} (e : α → D) (p : α → Bool) (k : α → D) (xs : List α) {Q : List D → S → Prop} (h : ∀ x ∈ xs, ItemW bt c f ρ (e x) s fun o s1 => o = (if p x then some (k x) else none) ∧ s1 = s) (q : Q ((xs.filter p).map k) s) : WT T (lcL bt c f ρ (xs.map e) s) Q := by
  induction xs generalizing Q with
  | nil => exact ⟨q⟩
  | cons x xs ih =>
    refine lc_cons ?_
    obtain ⟨ρ1, eb, z⟩ := h x (.head _)
    refine ⟨ρ1, eb, z.mono fun b s1 z => ?_⟩
    have go : WT T (lcL bt c f ρ (xs.map e) s) fun r s2 => Q ((if p x then some (k x) else none : Option D).toList ++ r) s2 := by
      refine ih (fun d' m => h d' (.tail _ m)) ?_
      by_cases hp : p x = true
      · rw [List.filter_cons_of_pos hp] at q
        rw [if_pos hp]
        exact q
      · rw [List.filter_cons_of_neg hp] at q
        rw [if_neg hp]
        exact q
    cases b with
    | false =>
      have z : none = (if p x then some (k x) else none : Option D) ∧ s1 = s := z
      show WT T (lcL bt c f ρ (xs.map e) s1) fun r s2 => Q ((none : Option D).toList ++ r) s2
      rw [z.2, z.1]
      exact go
    | true =>
      refine WT.mono z fun y s2 ⟨w, hy, h1, hs⟩ => ⟨w, hy, ?_⟩
      rw [hs, h1]
      exact go
/-- two ways that meet again -/
theorem br_join {α : Type} {b : Bool} {o1 o2 : Out S α} {Q : α → S → Prop} (P : α → S → Prop) (h1 : b = true → WT T o1 P) (h2 : b = false → WT T o2 P) (k : ∀ a s, P a s → Q a s) : Br b (WT T o1 Q) (WT T o2 Q) :=
  br (fun e => (h1 e).mono k) fun e => (h2 e).mono k
theorem br_joinA {b : Bool} {o : Out S Bool} {s : S} {Q : Bool → S → Prop} (P : Bool → S → Prop) (h1 : b = true → WT T o P) (h2 : b = false → P false s) (k : ∀ a s, P a s → Q a s) : Br b (WT T o Q) (Q false s) :=
  br (fun e => (h1 e).mono k) fun e => k _ _ (h2 e)
theorem item {d : D} {ρ1 : Env} {Q : Option D → S → Prop} (e : bt d ρ = some ρ1) (h : W (c ρ1 s) fun b s1 => Br b (W (f ρ1 s1) fun y s2 => ∃ z, y = .d z ∧ Q (some z) s2) (Q none s1)) : ItemW bt c f ρ d s Q := ⟨ρ1, e, h⟩
theorem item1 {d : D} {ρ1 : Env} {Q : Option D → S → Prop} (e : bt d ρ = some ρ1) (h : W (f ρ1 s) fun y s2 => ∃ z, y = .d z ∧ Q (some z) s2) : ItemW bt xYes f ρ d s Q := ⟨ρ1, e, w_ok h⟩
variable {g1 : Sx S} {Q : Fl → S → Prop}
theorem for_pre' {α : Type} (e : α → D) (I : List α → Env → S → Prop) : ∀ (xs pre : List α) {ρ : Env} {s : S}, I pre ρ s → (∀ p x post, pre ++ xs = p ++ x :: post → ∀ ρ s, I p ρ s → ∃ ρ1, bt (e x) ρ = some ρ1 ∧ WT T (g1 ρ1 s) (LpK (I (p ++ [x])) Q)) → (∀ ρ s, I (pre ++ xs) ρ s → Q (.nx ρ) s) → WT T (forL bt g1 (xs.map e) ρ s) Q
  | [], pre, ρ, s, h0, _, q => ⟨q ρ s (by rw [List.append_nil]; exact h0)⟩
  | x :: xs, pre, ρ, s, h0, h, q => by
    obtain ⟨ρ1, e1, z⟩ := h pre x xs rfl ρ s h0
    refine for_cons e1 (z.mono fun fl s1 z => ?_)
    have ea : pre ++ x :: xs = (pre ++ [x]) ++ xs := by simp
    have go : ∀ (ρ2 : Env) (s1 : S), I (pre ++ [x]) ρ2 s1 → WT T (forL bt g1 (xs.map e) ρ2 s1) Q := fun ρ2 s1 h1 =>
      for_pre' e I xs (pre ++ [x]) h1 (fun p y post ep => h p y post (by rw [ea]; exact ep)) fun ρ s hI => q ρ s (by rw [ea]; exact hI)
    cases fl with
    | nx ρ2 => exact go ρ2 s1 z
    | ct ρ2 => exact go ρ2 s1 z
    | bk ρ2 => exact z
    | rt y => exact z
    | rg y ρ2 => exact z
/-- a loop by an invariant of what is done -/
theorem for_pre {α : Type} (e : α → D) (I : List α → Env → S → Prop) (xs : List α) {ρ : Env} {s : S} (h0 : I [] ρ s) (h : ∀ p x post, xs = p ++ x :: post → ∀ ρ s, I p ρ s → ∃ ρ1, bt (e x) ρ = some ρ1 ∧ WT T (g1 ρ1 s) (LpK (I (p ++ [x])) Q)) (q : ∀ ρ s, I xs ρ s → Q (.nx ρ) s) : WT T (forL bt g1 (xs.map e) ρ s) Q :=
  for_pre' e I xs [] h0 (fun p x post ep => h p x post ep) fun ρ s hI => q ρ s hI
theorem w_frzL {i : Nat} {ds : List D} (e : ρ[i]? = some (.l ds)) (h : Stt (ρ.set i (.v (.d (.list ds)))) fun ρ1 => WT T (g1 ρ1 s) Q) : WT T (sFrz i g1 ρ s) Q := by
  refine w_frz ?_
  unfold frz
  rw [e]
  exact h
theorem w_moveL {i j : Nat} {ds : List D} (e : ρ[j]? = some (.l ds)) (hn : i ≠ j) (h : Stt (ρ.set j .no) fun ρ1 => Stt (ρ1.set i (.l ds)) fun ρ2 => Q (.nx ρ2) s) : WT T (sMove i j ρ s) Q := by
  unfold sMove
  rw [e]
  show WT T (if i = j then _ else _) Q
  rw [if_neg hn]
  exact ⟨h⟩
end
end DL
namespace DL
open PySem PySem.Spec PyProof.Rows L2
/-- every code point is one -/
def CpOk (x : Str) : Prop := ∀ c ∈ x.cps.toList, c < 0x110000
theorem strOk_of {x : Str} (h : CpOk x) : PyData.strOk x = true := by
  unfold PyData.strOk
  refine Array.all_eq_true_iff_forall_mem.mpr fun c hc => ?_
  exact decide_eq_true (h c (Array.mem_toList_iff.mpr hc))
theorem cp_of {x : Str} (h : PyData.strOk x = true) : CpOk x := fun c hc => by
  have := (Array.all_eq_true_iff_forall_mem.mp h) c (Array.mem_toList_iff.mp hc)
  simpa using this
theorem char_lt (c : Char) : c.toNat < 0x110000 := by
  have h := c.valid
  have e : c.toNat = c.val.toNat := rfl
  rcases h with h | h
  · rw [e]; have : c.val.toNat < 0xd800 := h; omega
  · rw [e]; exact h.2
theorem cp_ofString (s : String) : CpOk (Str.ofString s) := fun c hc => by
  rw [Str.ofString_eq_toList] at hc
  simp at hc
  obtain ⟨d, _, rfl⟩ := hc
  exact char_lt d
theorem cp_append {x y : Str} (hx : CpOk x) (hy : CpOk y) : CpOk (x ++ y) := fun c hc => by
  have e : (x ++ y).cps.toList = x.cps.toList ++ y.cps.toList := by
    show (x.cps ++ y.cps).toList = _
    simp
  rw [e] at hc
  rcases List.mem_append.mp hc with h | h
  · exact hx c h
  · exact hy c h
theorem cp_empty : CpOk Str.empty := fun c hc => by cases hc
theorem cp_join {sep : Str} (hs : CpOk sep) : ∀ ts : List Str, (∀ t ∈ ts, CpOk t) → CpOk (Str.join sep ts)
  | [], _ => cp_empty
  | [x], h => h x (.head _)
  | x :: y :: r, h => cp_append (cp_append (h x (.head _)) hs) (cp_join hs (y :: r) fun t m => h t (.tail _ m))
theorem cp_reprChar {q c : Nat} (hc : c < 0x110000) : ∀ d ∈ Builtin.Str.reprChar q c, d < 0x110000 := by
  have hx : ∀ (w : Nat) d, d ∈ (let ds := (Nat.toDigits 16 c).map Char.toNat; List.replicate (w - ds.length) 48 ++ ds) → d < 0x110000 := fun w d m => by
    rcases List.mem_append.mp m with h | h
    · rw [(List.mem_replicate.mp h).2]; decide
    · obtain ⟨e, _, rfl⟩ := List.mem_map.mp h
      exact char_lt e
  intro d m
  unfold Builtin.Str.reprChar at m
  split at m
  · simp at m; omega
  · split at m
    · simp at m; omega
    · split at m
      · simp at m; omega
      · split at m
        · simp at m; omega
        · split at m
          · simp at m; omega
          · split at m
            · rcases List.mem_append.mp m with h | h
              · simp at h; omega
              · exact hx 2 d h
            · split at m
              · rcases List.mem_append.mp m with h | h
                · simp at h; omega
                · exact hx 4 d h
              · rcases List.mem_append.mp m with h | h
                · simp at h; omega
                · exact hx 8 d h
theorem cp_fold {q : Nat} : ∀ (l : List Nat) (acc : Array Nat), (∀ c ∈ l, c < 0x110000) → (∀ c ∈ acc.toList, c < 0x110000) → ∀ c ∈ (l.foldl (fun out c => out ++ (Builtin.Str.reprChar q c).toArray) acc).toList, c < 0x110000
  | [], acc, _, h => h
  | d :: l, acc, hl, h => cp_fold l _ (fun c m => hl c (.tail _ m)) fun c m => by
    simp at m
    rcases m with m | m
    · exact h c (by simpa using m)
    · exact cp_reprChar (hl d (.head _)) c m
theorem cp_reprText {x : Str} (h : CpOk x) : CpOk (PySem.reprText x) := fun c hc => by
  unfold PySem.reprText at hc
  have hq : reprQuote x < 0x110000 := by unfold reprQuote; split <;> decide
  simp only [Array.toList_push, List.mem_append, List.mem_singleton] at hc
  rcases hc with hc | rfl
  · rw [← Array.foldl_toList] at hc
    exact cp_fold _ _ h (fun c m => by
      have e : c = reprQuote x := by simpa using m
      rw [e]; exact hq) c hc
  · exact hq
mutual
theorem cp_shown : ∀ d : PyData, d.canLay0 = true → CpOk d.shown
  | .none, _ => by simp only [PyData.shown]; exact cp_ofString _
  | .bool b, _ => by simp only [PyData.shown]; cases b <;> exact cp_ofString _
  | .int i, _ => by simp only [PyData.shown]; exact cp_ofString _
  | .str x, h => by simp only [PyData.shown]; exact cp_reprText (cp_of (by simpa only [PyData.canLay0] using h))
  | .list xs, h => by
    rw [PyData.shown_list]
    exact cp_append (cp_append (cp_ofString _) (cp_join (cp_ofString _) _ (cp_shownAll xs (by simpa only [PyData.canLay0] using h)))) (cp_ofString _)
  | .tuple xs, h => by
    rw [PyData.shown_tuple]
    exact cp_append (cp_append (cp_ofString _) (cp_join (cp_ofString _) _ (cp_shownAll xs (by simpa only [PyData.canLay0] using h)))) (cp_ofString _)
  | .dict _, h => by simp only [PyData.canLay0] at h; cases h
theorem cp_shownAll : ∀ ds : List PyData, PyData.canLayAll0 ds = true → ∀ t ∈ PyData.shownAll ds, CpOk t
  | [], _, t, m => by simp only [PyData.shownAll] at m; cases m
  | d :: ds, h, t, m => by
    have h' : d.canLay0 = true ∧ PyData.canLayAll0 ds = true := by simpa only [PyData.canLayAll0, Bool.and_eq_true] using h
    simp only [PyData.shownAll] at m
    rcases List.mem_cons.mp m with rfl | m
    · exact cp_shown d h'.1
    · exact cp_shownAll ds h'.2 t m
end
/-- small data: no dict, nesting at most k, bulk at most b -/
structure Sm (k b : Nat) (d : PyData) : Prop where
  lay : d.canLay0 = true
  short : d.intsShort 60 = true
  sh : d.showable = true
  dp : d.depth ≤ k
  bk : d.bulk ≤ b
structure SmL (k b : Nat) (d : List PyData) : Prop where
  lay : PyData.canLayAll0 d = true
  short : PyData.intsShortAll 60 d = true
  sh : PyData.showableAll d = true
  dp : PyData.depthAll d ≤ k
  bk : PyData.bulkAll d ≤ b
theorem sm_intB {i : Int} (h : i.natAbs < 10 ^ 58) : Sm 0 0 (.int i) := by
  refine ⟨rfl, ?_, ?_, Nat.le_refl _, Nat.le_refl _⟩
  · simp only [PyData.intsShort, decide_eq_true_eq]
    have e := int_text_length_le10 (k := 58) (by decide) h
    show (Str.ofString (toString i)).length ≤ 60
    rw [PySem.ofString_length]
    omega
  · simp only [PyData.showable, decide_eq_true_eq]
    by_cases h0 : i.natAbs = 0
    · rw [h0]; decide
    · rw [Nat.log2_lt h0]
      exact Nat.lt_of_lt_of_le h (Nat.le_trans (by decide +kernel : 10 ^ 58 ≤ 2 ^ 200) (Nat.pow_le_pow_right (by decide) (by decide)))
theorem sm_int {i : Int} (h : i.natAbs < 10 ^ 12) : Sm 0 0 (.int i) := sm_intB (Nat.lt_of_lt_of_le h (by decide +kernel))
theorem sm_none : Sm 0 0 .none := ⟨rfl, rfl, rfl, Nat.le_refl _, Nat.le_refl _⟩
theorem sm_str {x : Str} (h : CpOk x) : Sm 0 x.length (.str x) := ⟨by simp only [PyData.canLay0]; exact strOk_of h, rfl, rfl, Nat.le_refl _, Nat.le_refl _⟩
theorem Sm.le {k b k' b' : Nat} {d : PyData} (h : Sm k b d) (hk : k ≤ k') (hb : b ≤ b') : Sm k' b' d := ⟨h.lay, h.short, h.sh, Nat.le_trans h.dp hk, Nat.le_trans h.bk hb⟩
theorem SmL.le {k b k' b' : Nat} {d : List PyData} (h : SmL k b d) (hk : k ≤ k') (hb : b ≤ b') : SmL k' b' d := ⟨h.lay, h.short, h.sh, Nat.le_trans h.dp hk, Nat.le_trans h.bk hb⟩
theorem sm_tuple {k b : Nat} {ds : List PyData} (h : SmL k b ds) : Sm (k + 1) b (.tuple ds) :=
  ⟨by simp only [PyData.canLay0]; exact h.lay, by simp only [PyData.intsShort]; exact h.short, by simp only [PyData.showable]; exact h.sh, by simp only [PyData.depth]; exact Nat.succ_le_succ h.dp, by simp only [PyData.bulk]; exact h.bk⟩
theorem sm_list {k b : Nat} {ds : List PyData} (h : SmL k b ds) : Sm (k + 1) b (.list ds) :=
  ⟨by simp only [PyData.canLay0]; exact h.lay, by simp only [PyData.intsShort]; exact h.short, by simp only [PyData.showable]; exact h.sh, by simp only [PyData.depth]; exact Nat.succ_le_succ h.dp, by simp only [PyData.bulk]; exact h.bk⟩
theorem sl_nil {k : Nat} : SmL k 0 [] := ⟨rfl, rfl, rfl, Nat.zero_le _, Nat.le_refl _⟩
theorem sl_cons {k b b' : Nat} {d : PyData} {ds : List PyData} (h : Sm k b d) (t : SmL k b' ds) : SmL k (b + 1 + b') (d :: ds) :=
  ⟨by simp only [PyData.canLayAll0, h.lay, t.lay, Bool.and_self], by simp only [PyData.intsShortAll, h.short, t.short, Bool.and_self], by simp only [PyData.showableAll, h.sh, t.sh, Bool.and_self],
    by simp only [PyData.depthAll]; exact Nat.max_le.mpr ⟨h.dp, t.dp⟩, by simp only [PyData.bulkAll]; have := h.bk; have := t.bk; omega⟩
theorem sl_all {k b : Nat} : ∀ ds : List PyData, (∀ d ∈ ds, Sm k b d) → SmL k (ds.length * (b + 1)) ds
  | [], _ => by rw [List.length_nil, Nat.zero_mul]; exact sl_nil
  | d :: ds, h => by
    have := sl_cons (h d (.head _)) (sl_all ds fun e m => h e (.tail _ m))
    refine this.le (Nat.le_refl _) ?_
    rw [List.length_cons, Nat.succ_mul]
    omega
theorem sl_ints {ns : List Int} (h : ∀ n ∈ ns, n.natAbs < 10 ^ 12) : SmL 0 ns.length (ns.map .int) := by
  have := sl_all (k := 0) (b := 0) (ns.map PyData.int) fun d m => by
    obtain ⟨n, hn, rfl⟩ := List.mem_map.mp m
    exact sm_int (h n hn)
  simpa using this
theorem Sm.repr {k b : Nat} {d : PyData} (h : Sm k b d) (hk : k ≤ 60) (hb : b ≤ 250000) : d.canLay0 = true ∧ d.showable = true ∧ d.shown.length ≤ sizeLine ∧ d.depth ≤ 60 := by
  refine ⟨h.lay, h.sh, ?_, Nat.le_trans h.dp hk⟩
  have h1 := PyData.shown_le_bulk 60 (by decide) d (PyData.leavesShort_of_canLay0 60 d h.lay h.short)
  have h2 := h.bk
  rw [sizeLine_eq]
  omega
theorem Sm.shaped {k b : Nat} {d : PyData} (h : Sm k b d) (hk : k ≤ 64) : SeqAt.shaped d = true := by
  unfold SeqAt.shaped
  rw [h.lay, decide_eq_true (Nat.le_trans h.dp hk)]
  rfl
theorem Sm.strSh {k b : Nat} {d : PyData} (h : Sm k b d) : SeqAt.shaped (.str d.shown) = true := by
  unfold SeqAt.shaped
  have e : (PyData.str d.shown).canLay0 = true := by simp only [PyData.canLay0]; exact strOk_of (cp_shown d h.lay)
  rw [e]
  rfl
mutual
theorem eqv_refl : ∀ d : PyData, d.canLay0 = true → PyData.eqv d d = true
  | .none, _ => by simp only [PyData.eqv]
  | .bool b, _ => by simp only [PyData.eqv]; exact beq_self_eq_true b
  | .int i, _ => by simp only [PyData.eqv]; exact beq_self_eq_true i
  | .str x, _ => by simp only [PyData.eqv]; exact beq_self_eq_true x
  | .list xs, h => by simp only [PyData.eqv]; exact eqvAll_refl xs (by simpa only [PyData.canLay0] using h)
  | .tuple xs, h => by simp only [PyData.eqv]; exact eqvAll_refl xs (by simpa only [PyData.canLay0] using h)
  | .dict _, h => by simp only [PyData.canLay0] at h; cases h
theorem eqvAll_refl : ∀ ds : List PyData, PyData.canLayAll0 ds = true → PyData.eqvAll ds ds = true
  | [], _ => by simp only [PyData.eqvAll]
  | d :: ds, h => by
    have h' : d.canLay0 = true ∧ PyData.canLayAll0 ds = true := by simpa only [PyData.canLayAll0, Bool.and_eq_true] using h
    simp only [PyData.eqvAll, eqv_refl d h'.1, eqvAll_refl ds h'.2, Bool.and_self]
end
section
variable {S : Type} {s : S} {Q : Val → S → Prop} {k b k' b' : Nat} {d e : PyData}
theorem cv_repr' (h : Sm k b d) (q : Q (.d (.str d.shown)) s) (hk : k ≤ 60 := by decide) (hb : b ≤ 250000 := by omega) : CV oRepr [.d d] s Q := cv_repr q (h.repr hk hb)
theorem str_eqv (x y : Str) : PyData.eqv (.str x) (.str y) = decide (x = y) := by
  simp only [PyData.eqv]
  by_cases h : x = y
  · rw [decide_eq_true h, h]; exact beq_self_eq_true _
  · rw [decide_eq_false h]; exact beq_false_of_ne h
/-- texts of data, compared -/
theorem bv_neR (h : Sm k b d) (h' : Sm k' b' e) (q : Q (.d (.bool (!decide (d.shown = e.shown)))) s) : BV opNe (.d (.str d.shown)) (.d (.str e.shown)) s Q :=
  bv_ne (by rw [str_eqv]; exact q) (by rw [h.strSh, h'.strSh]; rfl)
theorem bv_neSame (h : Sm k b d) (q : Q (.d (.bool false)) s) : BV opNe (.d (.str d.shown)) (.d (.str d.shown)) s Q := bv_neR h h (by rw [decide_eq_true rfl]; exact q)
/-- numbers, compared -/
theorem eqvAll_ints : ∀ a b : List Int, PyData.eqvAll (a.map .int) (b.map .int) = decide (a = b)
  | [], [] => by simp [PyData.eqvAll]
  | [], y :: ys => by simp [PyData.eqvAll]
  | x :: xs, [] => by simp [PyData.eqvAll]
  | x :: xs, y :: ys => by
    rw [List.map_cons, List.map_cons, PyData.eqvAll, eqvAll_ints xs ys]
    simp only [PyData.eqv]
    by_cases h : x = y
    · by_cases h2 : xs = ys
      · simp [h, h2]
      · simp [h, h2]
    · simp [h]
theorem eqv_iT (a b : List Int) : PyData.eqv (.tuple (a.map .int)) (.tuple (b.map .int)) = decide (a = b) := by simp only [PyData.eqv]; exact eqvAll_ints a b
theorem canLayAll_ints : ∀ ns : List Int, PyData.canLayAll0 (ns.map .int) = true
  | [] => rfl
  | n :: ns => by rw [List.map_cons, PyData.canLayAll0, canLayAll_ints ns]; rfl
theorem depthAll_ints : ∀ ns : List Int, PyData.depthAll (ns.map .int) = 0
  | [] => rfl
  | n :: ns => by rw [List.map_cons, PyData.depthAll, depthAll_ints ns]; rfl
theorem shaped_iT (ns : List Int) : SeqAt.shaped (.tuple (ns.map .int)) = true := by
  unfold SeqAt.shaped
  simp only [PyData.canLay0, PyData.depth, canLayAll_ints, depthAll_ints]
  decide
theorem bv_neI {a b : List Int} (q : Q (.d (.bool (!decide (a = b)))) s) : BV opNe (.d (.tuple (a.map .int))) (.d (.tuple (b.map .int))) s Q := bv_ne (by rw [eqv_iT]; exact q) (by rw [shaped_iT, shaped_iT]; rfl)
theorem bv_neI0 {a : List Int} (q : Q (.d (.bool (!decide (a = [])))) s) : BV opNe (.d (.tuple (a.map .int))) (.d (.tuple [])) s Q := bv_neI (b := []) q
theorem bv_eqN {a b : Int} (q : Q (.d (.bool (decide (a = b)))) s) : BV opEq (.d (.int a)) (.d (.int b)) s Q := bv_eq (by
  have e : PyData.eqv (.int a) (.int b) = decide (a = b) := by simp only [PyData.eqv]; rfl
  rw [e]; exact q) rfl
theorem bv_neN {a b : Int} (q : Q (.d (.bool (!decide (a = b)))) s) : BV opNe (.d (.int a)) (.d (.int b)) s Q := bv_ne (by
  have e : PyData.eqv (.int a) (.int b) = decide (a = b) := by simp only [PyData.eqv]; rfl
  rw [e]; exact q) rfl
theorem bv_eqB {a b : Bool} (q : Q (.d (.bool (a == b))) s) : BV opEq (.d (.bool a)) (.d (.bool b)) s Q := bv_eq (by
  have e : PyData.eqv (.bool a) (.bool b) = (a == b) := by simp only [PyData.eqv]
  rw [e]; exact q) rfl
theorem bv_neB {a b : Bool} (q : Q (.d (.bool (!(a == b)))) s) : BV opNe (.d (.bool a)) (.d (.bool b)) s Q := bv_ne (by
  have e : PyData.eqv (.bool a) (.bool b) = (a == b) := by simp only [PyData.eqv]
  rw [e]; exact q) rfl
theorem bv_neNil {mk : List PyData → PyData} {ds : List PyData} (hm : mk = .list ∨ mk = .tuple) (h : Sm k b (mk ds)) (q : Q (.d (.bool (!ds.isEmpty))) s) (hk : k ≤ 64 := by decide) : BV opNe (.d (mk ds)) (.d (mk [])) s Q := by
  refine bv_ne ?_ ?_
  · have e : PyData.eqv (mk ds) (mk []) = ds.isEmpty := by
      rcases hm with rfl | rfl <;> cases ds <;> simp [PyData.eqv, PyData.eqvAll]
    rw [e]; exact q
  · rw [h.shaped hk]
    rcases hm with rfl | rfl <;> rfl
theorem bv_isB {a b : Bool} (q : Q (.d (.bool (a == b))) s) : BV opIs (.d (.bool a)) (.d (.bool b)) s Q := bv rfl q
theorem bv_isNotB {a b : Bool} (q : Q (.d (.bool (!(a == b)))) s) : BV opIsNot (.d (.bool a)) (.d (.bool b)) s Q := bv rfl q
theorem sm_iT {ns : List Int} (h : ∀ n ∈ ns, n.natAbs < 10 ^ 12) : Sm 1 ns.length (.tuple (ns.map .int)) := sm_tuple (sl_ints h)
end
end DL
namespace DL
open PySem PySem.Spec PyProof.Rows L2
section
variable {S : Type} {T : Exn → S → Prop} {ρ : Env} {s : S} {i n : Nat} {f fa fb : Ex S} {g : Exs S}
/-- a text -/
def XV (x : Val) (s : S) (Q : Str → S → Prop) : Prop := ∃ z, x = .d (.str z) ∧ Q z s
theorem xv {z : Str} {Q : Str → S → Prop} (h : Q z s) : XV (.d (.str z)) s Q := ⟨z, rfl, h⟩
theorem w_itxt {Q : List D → S → Prop} (h : WT T (f ρ s) fun x s1 => XV x s1 fun z s2 => Q (z.cps.toList.map signD) s2) : WT T (iTxt f ρ s) Q :=
  w_bind (h.mono fun x s1 ⟨z, hx, q⟩ => by subst hx; (first | exact q | exact ⟨q⟩))
theorem w_tsl {fl fh : Ox S} {Q : Val → S → Prop} (h : WT T (fa ρ s) fun x s1 => WT T (fl ρ s1) fun l s2 => WT T (fh ρ s2) fun h s3 => UV (fun d => opTSl d l h) x s3 Q) : WT T (eTSl fa fl fh ρ s) Q :=
  w_bind (h.mono fun x s1 h => w_bind (h.mono fun l s2 h => w_bind (h.mono fun u s3 ⟨p, r, hx, e, z⟩ => by subst hx; show WT T (match (fun d => opTSl d l u) p with | some r => .ok (.d r) s3 | none => .bad) Q; rw [e]; (first | exact z | exact ⟨z⟩))))
def MV (op : D → D → Option D) (a : Str) (y : Val) (s : S) (Q : Val → S → Prop) : Prop := ∃ d z, y = .d d ∧ op (.str a) d = some z ∧ Q (.d z) s
theorem w_m1 {op : D → D → Option D} {Q : Val → S → Prop} (h : WT T (fa ρ s) fun x s1 => XV x s1 fun a s2 => WT T (fb ρ s2) fun y s3 => MV op a y s3 Q) : WT T (eM1 op fa fb ρ s) Q :=
  w_bind (h.mono fun x s1 ⟨a, hx, q⟩ => by
    subst hx
    show WT T ((fb ρ s1).bind _) Q
    refine w_bind (q.mono fun y s2 ⟨d, z, hy, e, q⟩ => ?_)
    subst hy
    show WT T (match op (.str a) d with | some z => .ok (.d z) s2 | none => .bad) Q
    rw [e]
    (first | exact q | exact ⟨q⟩))
theorem strSh {a : Str} (h : CpOk a) : SeqAt.shaped (.str a) = true := by
  have h1 : (PyData.str a).canLay0 = true := by simp only [PyData.canLay0]; exact strOk_of h
  have h2 : (PyData.str a).depth ≤ 64 := by show 0 ≤ 64; omega
  unfold SeqAt.shaped
  rw [h1, decide_eq_true h2]
  rfl
def FwX (T : Exn → S → Prop) (n : Nat) (F : List Val → S → Out S Val) (ys : List Val) (s : S) (Q : Val → S → Prop) : Prop := ys.length = n ∧ WT T (F ys s) Q
theorem fwX {F : List Val → S → Out S Val} {ys : List Val} {Q : Val → S → Prop} (e : ys.length = n) (h : WT T (F ys s) Q) : FwX T n F ys s Q := ⟨e, h⟩
theorem w_fnX {F : List Val → S → Out S Val} {Q : Val → S → Prop} (h : WT T (g ρ s) fun ys s1 => FwX T n F ys s1 Q) : WT T (eFnX n F g ρ s) Q :=
  w_bind (h.mono fun ys s1 ⟨e, q⟩ => by show WT T (if ys.length = n then _ else _) Q; rw [if_pos e]; exact q)
theorem w_fnBX {F : List Val → S → Out S Val} {Q : Val → S → Prop} (h : WT T (g ρ s) fun ys s1 => FwX T n F ys s1 fun y s2 => HV y s2 Q) : WT T (eFnBX n F g ρ s) Q :=
  w_bind (h.mono fun ys s1 ⟨e, q⟩ => by
    show WT T (if ys.length = n then _ else _) Q
    rw [if_pos e]
    refine w_bind (q.mono fun y s2 ⟨d, hd, hh, z⟩ => ?_)
    subst hd
    show WT T (if hard d = true then .ok (.d d) s2 else .bad) Q
    rw [if_pos hh]
    (first | exact z | exact ⟨z⟩))
theorem w_rz {c : Str} {ks : List Str} {Q : Fl → S → Prop} (h : WT T (g ρ s) fun ys s1 => DV_ ys s1 fun ds s2 => Ck (ds.length = ks.length) (T ⟨c, ks.zip ds⟩ s2)) : WT T (sRz c ks g ρ s) Q :=
  w_bind (h.mono fun ys s1 ⟨ds, e, hl, z⟩ => by
    show WT T (match datas ys with | some ds => _ | none => _) Q
    rw [e]
    show WT T (if ds.length = ks.length then _ else _) Q
    rw [if_pos hl]
    exact ⟨z⟩)
end
end DL
namespace LK
open PySem PySem.Spec PyProof.Rows L2 DL
def top (i : Nat) : Stmt := PySem.Challenge.pw_wheelfill_k39_rules_that_part.main.body.getD i (.Pass ⟨0, 0, 0, 0⟩)
abbrev s_lean : Stmt := top 1
abbrev s_is_upright : Stmt := top 2
abbrev s_rows_of : Stmt := top 3
abbrev s_lines : Stmt := top 4
abbrev s_starts : Stmt := top 5
abbrev s_boarded_loads : Stmt := top 9
abbrev s_turned_loads : Stmt := top 10
abbrev s_may : Stmt := top 11
abbrev s_after : Stmt := top 12
abbrev s_numbers_of : Stmt := top 14
abbrev s_deed : Stmt := top 15
abbrev s_walked : Stmt := top 16
abbrev s_first_queue : Stmt := top 17
abbrev s_parted : Stmt := top 18
abbrev s__law_deck : Stmt := top 20
abbrev s__law_draw : Stmt := top 21
abbrev s__law_one : Stmt := top 22
abbrev s__law_count : Stmt := top 23
abbrev s__law_wheel : Stmt := top 24
abbrev s__law_lean : Stmt := top 25
abbrev s__law_fits : Stmt := top 26
abbrev s__law_rows : Stmt := top 27
abbrev s__law_behind : Stmt := top 28
abbrev s__law_rule : Stmt := top 29
abbrev s__law_deed_of : Stmt := top 30
abbrev s__law_starts : Stmt := top 31
abbrev s__law_run : Stmt := top 32
abbrev s__law_first : Stmt := top 33
abbrev s__law_like : Stmt := top 34
abbrev s__law_do_part : Stmt := top 35
abbrev s_law : Stmt := top 36
/-- a def as the top left it -/
structure Df (K : PySem.W.Frag) (mg : Str → Option Value) (nm : Str) (st : Stmt) where
  f : Addr
  fd : FuncData
  F : Fun K nm nm st f fd
  g : mg nm = some (.ref f)
/-- what the top has left -/
structure Tx (K : PySem.W.Frag) (mg : Str → Option Value) where
  nb_abs : mg "abs" = none
  nb_all : mg "all" = none
  nb_dict : mg "dict" = none
  nb_int : mg "int" = none
  nb_len : mg "len" = none
  nb_list : mg "list" = none
  nb_max : mg "max" = none
  nb_range : mg "range" = none
  nb_repr : mg "repr" = none
  nb_sum : mg "sum" = none
  nb_tuple : mg "tuple" = none
  nb_zip : mg "zip" = none
  c_BOARD : (t : Tok) ×' (mg "BOARD" = some (.str "board" t))
  c_TURN : (t : Tok) ×' (mg "TURN" = some (.str "turn" t))
  d_lean : Df K mg "lean" s_lean
  d_is_upright : Df K mg "is_upright" s_is_upright
  d_rows_of : Df K mg "rows_of" s_rows_of
  d_lines : Df K mg "lines" s_lines
  d_starts : Df K mg "starts" s_starts
  d_boarded_loads : Df K mg "boarded_loads" s_boarded_loads
  d_turned_loads : Df K mg "turned_loads" s_turned_loads
  d_may : Df K mg "may" s_may
  d_after : Df K mg "after" s_after
  d_numbers_of : Df K mg "numbers_of" s_numbers_of
  d_deed : Df K mg "deed" s_deed
  d_walked : Df K mg "walked" s_walked
  d_first_queue : Df K mg "first_queue" s_first_queue
  d_parted : Df K mg "parted" s_parted
  d__law_draw : Df K mg "_law_draw" s__law_draw
  d__law_one : Df K mg "_law_one" s__law_one
  d__law_count : Df K mg "_law_count" s__law_count
  d__law_wheel : Df K mg "_law_wheel" s__law_wheel
  d__law_lean : Df K mg "_law_lean" s__law_lean
  d__law_fits : Df K mg "_law_fits" s__law_fits
  d__law_rows : Df K mg "_law_rows" s__law_rows
  d__law_behind : Df K mg "_law_behind" s__law_behind
  d__law_rule : Df K mg "_law_rule" s__law_rule
  d__law_deed_of : Df K mg "_law_deed_of" s__law_deed_of
  d__law_starts : Df K mg "_law_starts" s__law_starts
  d__law_run : Df K mg "_law_run" s__law_run
  d__law_first : Df K mg "_law_first" s__law_first
  d__law_like : Df K mg "_law_like" s__law_like
  d__law_do_part : Df K mg "_law_do_part" s__law_do_part
  d__law_deck : Df K mg "_law_deck" s__law_deck
  d_law : Df K mg "law" s_law
  k_parted : MkAt K d_parted.fd 95
  k_law : MkAt K d_law.fd 196
section
variable {P : Program} {w : World} {K : PySem.W.Frag} {mg : Str → Option Value} {base : Heap} {B : Bs}
abbrev n_lam0 : List Str := ["acts"]
theorem sc_lam0 : FnScope n_lam0 n_lam0 (lamL 0).sc := ⟨rfl, rfl, rfl, by decide +kernel, rfl, by decide +kernel, by decide +kernel⟩
def b_lam0 : Ex Dk :=
  (eBin opNe (eBin opIx (bVar 0) (eC (.int 0))) (eBin opIx (bVar 0) (eC (.int 1))))
def m_lam0 : List Val → Dk → Out Dk Val := runL 0 b_lam0
theorem ok_lam0 (hP : B.P = P) (hK : B.K = K) (hw : B.w = w) (T : Tx K mg) : LamG P w K mg base B 1 0 1 m_lam0 :=
  fl_pure hP hK hw (L := lamL 0) rfl sc_lam0 b_lam0 rfl (fun pm cv ctv us hl => match us, hl with | [_], _ => rfl) (fun f cdv A outer s H E c hr =>
    (de_cmp (cd_ne c.hK c.u64) ((de_ix c.hK (db_var 0 (pv 0)) (de_int).lent)).lent ((de_ix c.hK (db_var 0 (pv 0)) (de_int).lent)).lent))
abbrev n_lam1 : List Str := ["_law_acts"]
theorem sc_lam1 : FnScope n_lam1 n_lam1 (lamL 1).sc := ⟨rfl, rfl, rfl, by decide +kernel, rfl, by decide +kernel, by decide +kernel⟩
def b_lam1 : Ex Dk :=
  (eBin opNe (eBin opIx (bVar 0) (eC (.int 0))) (eBin opIx (bVar 0) (eC (.int 1))))
def m_lam1 : List Val → Dk → Out Dk Val := runL 0 b_lam1
theorem ok_lam1 (hP : B.P = P) (hK : B.K = K) (hw : B.w = w) (T : Tx K mg) : LamG P w K mg base B 1 1 1 m_lam1 :=
  fl_pure hP hK hw (L := lamL 1) rfl sc_lam1 b_lam1 rfl (fun pm cv ctv us hl => match us, hl with | [_], _ => rfl) (fun f cdv A outer s H E c hr =>
    (de_cmp (cd_ne c.hK c.u64) ((de_ix c.hK (db_var 0 (pv 0)) (de_int).lent)).lent ((de_ix c.hK (db_var 0 (pv 0)) (de_int).lent)).lent))
def lamT : Nat → Option (Nat × (List Val → Dk → Out Dk Val))
  | 0 => some (1, m_lam0)
  | 1 => some (1, m_lam1)
  | _ => none
theorem ok_lams (hP : B.P = P) (hK : B.K = K) (hw : B.w = w) (T : Tx K mg) : ∀ n m F, lamT n = some (m, F) → LamG P w K mg base B 1 n m F := by
  intro n m F h
  match n, h with
  | 0, h => cases h; exact ok_lam0 hP hK hw T
  | 1, h => cases h; exact ok_lam1 hP hK hw T
  | n + 2, h => cases h
abbrev n_lean : List Str := ["wheel", "loads", "weight", "load"]
abbrev p_lean : List Str := ["wheel", "loads"]
theorem sc_lean : FnScope n_lean p_lean (defScope s_lean) := ⟨rfl, rfl, rfl, by decide +kernel, rfl, by decide +kernel, by decide +kernel⟩
def b_lean : Sx Dk :=
  (sRet (eCall oSum (aCons (eL (lLc (iZip (aCons (eBin opIx (bVar 0) (eC (.int 0))) (aCons (bVar 1) aNil))) (btT (btsC (btN 2) (btsC (btN 3) btsN))) xYes (eBin opMul (bVar 2) (bVar 3)) [2, 3])) aNil)))
def m_lean : List Val → Dk → Out Dk Val := runF 2 b_lean
theorem ok_lean (hP : B.P = P) (hK : B.K = K) (hw : B.w = w) (T : Tx K mg) (hM : TabsB base mg) : FnG P w K mg base CX0 1 T.d_lean.f T.d_lean.fd p_lean (spP B 2 m_lean) := by
  exact fg_pure hP hK hw T.d_lean.F sc_lean b_lean rfl (fun cdv A outer s H E c hr =>
    (ds_one (ds_ret ((de_fun (op := oSum) (cr_sum c.calm) (by rw [← c.hK]; exact cl_sum) (by rfl) (T.nb_sum) (by decide +kernel) (da_cons (((df_lc c (own := [("weight", 2), ("load", 3)]) (di_zip c.hK (T.nb_zip) (da_cons ((de_ix c.hK (db_var 0 (pv 0)) (de_int).lent)).lent (da_cons (db_var 1 (pv 1)) da_nil))) (blkOk_by (own := [("weight", 2), ("load", 3)]) (N := n_lean) (sc := defScope s_lean) (by decide +kernel)) (fun s H C cl fp => (dg_tup (c.blk s H _ (compEnvC _ cl C _) fp) (dgs_cons (dg_name (c.blk s H _ (compEnvC _ cl C _) fp).nd 2) (dgs_cons (dg_name (c.blk s H _ (compEnvC _ cl C _) fp).nd 3) dgs_nil)) (btsC_len (btsC_len btsN_len _) _))) (fun s H C cl fp => dts_nil) (fun s H C cl fp => (de_mul (c.blk s H _ (compEnvC _ cl C _) fp).hK (db_var 2 (pv 2)) (db_var 3 (pv 3)))))).de).lent da_nil))).lent)))
abbrev n_is_upright : List Str := ["wheel", "loads", "low", "high"]
abbrev p_is_upright : List Str := ["wheel", "loads"]
theorem sc_is_upright : FnScope n_is_upright p_is_upright (defScope s_is_upright) := ⟨rfl, rfl, rfl, by decide +kernel, rfl, by decide +kernel, by decide +kernel⟩
def b_is_upright : Sx Dk :=
  (sSeq (sUnp (btT (btsC (btN 2) (btsC (btN 3) btsN))) (eBin opIx (bVar 0) (eC (.int 3))))
    (sRet (eAnd (eBin (opRel fun i j => decide (i ≤ j)) (bVar 2) (eFn 2 m_lean (aCons (eVar 0) (aCons (eVar 1) aNil)))) (eBin (opRel fun i j => decide (i ≤ j)) (eFn 2 m_lean (aCons (eVar 0) (aCons (eVar 1) aNil))) (bVar 3)))))
def m_is_upright : List Val → Dk → Out Dk Val := runF 2 b_is_upright
theorem ok_is_upright (hP : B.P = P) (hK : B.K = K) (hw : B.w = w) (T : Tx K mg) (hM : TabsB base mg) : FnG P w K mg base CX0 2 T.d_is_upright.f T.d_is_upright.fd p_is_upright (spP B 2 m_is_upright) := by
  have g_lean := ok_lean (P := P) (w := w) (base := base) hP hK hw T hM
  exact fg_pure hP hK hw T.d_is_upright.F sc_is_upright b_is_upright rfl (fun cdv A outer s H E c hr =>
    (ds_cons (ds_unp (vs := [2, 3]) (de_ix c.hK (db_var 0 (pv 0)) (de_int).lent) (dg_tup c (dgs_cons (dg_name c.nd 2) (dgs_cons (dg_name c.nd 3) dgs_nil)) (btsC_len (btsC_len btsN_len _) _)))
    (ds_one (ds_ret ((de_and ((de_cmp cd_le (db_var 2 (pv 2)) ((de_call c (g_lean) (hr.mono (by decide)) T.d_lean.g T.d_lean.F.kp (T.d_lean.F.binds (ps := p_lean) fun _ _ _ _ _ _ us hl => match us, hl with | [_, _], _ => rfl) (dv_cons (de_var 0 (pv 0)) (dv_cons (de_var 1 (pv 1)) dv_nil)))).lent)).lent (de_one (de_cmp cd_le ((de_call c (g_lean) (hr.mono (by decide)) T.d_lean.g T.d_lean.F.kp (T.d_lean.F.binds (ps := p_lean) fun _ _ _ _ _ _ us hl => match us, hl with | [_, _], _ => rfl) (dv_cons (de_var 0 (pv 0)) (dv_cons (de_var 1 (pv 1)) dv_nil)))).lent (db_var 3 (pv 3)))))).lent))))
abbrev n_rows_of : List Str := ["items", "many", "found", "place", "longer", "row", "item"]
abbrev p_rows_of : List Str := ["items", "many"]
theorem sc_rows_of : FnScope n_rows_of p_rows_of (defScope s_rows_of) := ⟨rfl, rfl, rfl, by decide +kernel, rfl, by decide +kernel, by decide +kernel⟩
def b_rows_of : Sx Dk :=
  (sSeq (sNew 2 (lSeq (aCons (eSeq .tuple aNil) aNil)))
    (sSeq (sFor (iRg1 (aCons (bVar 1) aNil)) (btN 3)
    (sSeq (sNew 4 (lSeq aNil))
    (sSeq (sFrz 2 (sFor (iSeq (eVar 2)) (btN 5)
    (sExt 4 (eL (lLc (iSeq (bVar 0)) (btN 6) xYes (eBin opAdd (bVar 5) (eSeq .tuple (aCons (eVar 6) aNil))) [6])))))
    (sMove 2 4))))
    (sRet (bVar 2))))
def m_rows_of : List Val → Dk → Out Dk Val := runF 5 b_rows_of
theorem ok_rows_of (hP : B.P = P) (hK : B.K = K) (hw : B.w = w) (T : Tx K mg) (hM : TabsB base mg) : FnG P w K mg base CX0 1 T.d_rows_of.f T.d_rows_of.fd p_rows_of (spP B 2 m_rows_of) := by
  exact fg_pure hP hK hw T.d_rows_of.F sc_rows_of b_rows_of rfl (fun cdv A outer s H E c hr =>
    (ds_cons (ds_new c 2 (df_lst (dv_cons (de_tup dv_nil) dv_nil)))
    (ds_cons (ds_for (vs := [3]) c PassesOwn.never (di_range1 (T.nb_range) (da_cons (db_var 1 (pv 1)) da_nil)) (dg_name c.nd 3)
    (ds_cons (ds_new c 4 (df_lst dv_nil))
    (ds_cons (ds_frz 2 (ds_for (vs := [5]) c PassesOwn.never (di_seq c.hK (de_var 2 (pv 2))) (dg_name c.nd 5)
    (ds_one (ds_ext c 4 (pe_bm PySem.F.plainAttrs_list PySem.F.slot_list_extend PySem.F.type_list_extend mt_extend (pv 4) (pa_cons (((df_lc c (own := [("item", 6)]) (di_seqB c.hK (db_var 0 (pv 0))) (blkOk_by (own := [("item", 6)]) (N := n_rows_of) (sc := defScope s_rows_of) (by decide +kernel)) (fun s H C cl fp => (dg_name (c.blk s H _ (compEnvC _ cl C _) fp).nd 6)) (fun s H C cl fp => dts_nil) (fun s H C cl fp => (de_add (c.blk s H _ (compEnvC _ cl C _) fp).hK (db_var 5 (pv 5)) ((de_tup (dv_cons (de_var 6 (pv 6)) dv_nil))).lent)))).de).lent pa_nil))))))
    (ds_one (ds_move c 2 4)))))
    (ds_one (ds_ret (db_var 2 (pv 2)))))))
abbrev n_lines : List Str := ["wheel"]
abbrev p_lines : List Str := ["wheel"]
theorem sc_lines : FnScope n_lines p_lines (defScope s_lines) := ⟨rfl, rfl, rfl, by decide +kernel, rfl, by decide +kernel, by decide +kernel⟩
def b_lines : Sx Dk :=
  (sRet (eFn 2 m_rows_of (aCons (eBin opIx (bVar 0) (eC (.int 2))) (aCons (eBin opIx (bVar 0) (eC (.int 5))) aNil))))
def m_lines : List Val → Dk → Out Dk Val := runF 0 b_lines
theorem ok_lines (hP : B.P = P) (hK : B.K = K) (hw : B.w = w) (T : Tx K mg) (hM : TabsB base mg) : FnG P w K mg base CX0 2 T.d_lines.f T.d_lines.fd p_lines (spP B 1 m_lines) := by
  have g_rows_of := ok_rows_of (P := P) (w := w) (base := base) hP hK hw T hM
  exact fg_pure hP hK hw T.d_lines.F sc_lines b_lines rfl (fun cdv A outer s H E c hr =>
    (ds_one (ds_ret ((de_call c (g_rows_of) (hr.mono (by decide)) T.d_rows_of.g T.d_rows_of.F.kp (T.d_rows_of.F.binds (ps := p_rows_of) fun _ _ _ _ _ _ us hl => match us, hl with | [_, _], _ => rfl) (dv_cons (de_ix c.hK (db_var 0 (pv 0)) (de_int).lent) (dv_cons (de_ix c.hK (db_var 0 (pv 0)) (de_int).lent) dv_nil)))).lent)))
abbrev n_starts : List Str := ["wheel", "line"]
abbrev p_starts : List Str := ["wheel"]
theorem sc_starts : FnScope n_starts p_starts (defScope s_starts) := ⟨rfl, rfl, rfl, by decide +kernel, rfl, by decide +kernel, by decide +kernel⟩
def b_starts : Sx Dk :=
  (sRet (eCall oTuple (aCons (eL (lLc (iSeq (eFn 1 m_lines (aCons (eVar 0) aNil))) (btN 1) xYes (eSeq .tuple (aCons (eBin opMul (eSeq .tuple (aCons (eC (.int 0)) aNil)) (eCall oLen (aCons (eBin opIx (bVar 0) (eC (.int 0))) aNil))) (aCons (eVar 1) (aCons (eC (.int 0)) aNil)))) [1])) aNil)))
def m_starts : List Val → Dk → Out Dk Val := runF 1 b_starts
theorem ok_starts (hP : B.P = P) (hK : B.K = K) (hw : B.w = w) (T : Tx K mg) (hM : TabsB base mg) : FnG P w K mg base CX0 3 T.d_starts.f T.d_starts.fd p_starts (spP B 1 m_starts) := by
  have g_lines := ok_lines (P := P) (w := w) (base := base) hP hK hw T hM
  exact fg_pure hP hK hw T.d_starts.F sc_starts b_starts rfl (fun cdv A outer s H E c hr =>
    (ds_one (ds_ret ((de_typ (op := oTuple) call_tuple_of (by rw [← c.hK]; exact cl_tuple) (by rfl) (T.nb_tuple) boot_tuple (da_cons (((df_lc c (own := [("line", 1)]) (di_seqB c.hK ((de_call c (g_lines) (hr.mono (by decide)) T.d_lines.g T.d_lines.F.kp (T.d_lines.F.binds (ps := p_lines) fun _ _ _ _ _ _ us hl => match us, hl with | [_], _ => rfl) (dv_cons (de_var 0 (pv 0)) dv_nil))).lent) (blkOk_by (own := [("line", 1)]) (N := n_starts) (sc := defScope s_starts) (by decide +kernel)) (fun s H C cl fp => (dg_name (c.blk s H _ (compEnvC _ cl C _) fp).nd 1)) (fun s H C cl fp => dts_nil) (fun s H C cl fp => (de_tup (dv_cons (de_mul (c.blk s H _ (compEnvC _ cl C _) fp).hK ((de_tup (dv_cons de_int dv_nil))).lent ((de_fun (op := oLen) call_len (by rw [← (c.blk s H _ (compEnvC _ cl C _) fp).hK]; exact cl_len) (by rfl) (T.nb_len) boot_len (da_cons ((de_ix (c.blk s H _ (compEnvC _ cl C _) fp).hK (db_var 0 (pv 0)) (de_int).lent)).lent da_nil))).lent) (dv_cons (de_var 1 (pv 1)) (dv_cons de_int dv_nil))))))).de).lent da_nil))).lent)))
abbrev n_boarded_loads : List Str := ["loads", "line"]
abbrev p_boarded_loads : List Str := ["loads", "line"]
theorem sc_boarded_loads : FnScope n_boarded_loads p_boarded_loads (defScope s_boarded_loads) := ⟨rfl, rfl, rfl, by decide +kernel, rfl, by decide +kernel, by decide +kernel⟩
def b_boarded_loads : Sx Dk :=
  (sRet (eBin opAdd (eSeq .tuple (aCons (eBin opAdd (eBin opIx (bVar 0) (eC (.int 0))) (eBin opIx (bVar 1) (eC (.int 0)))) aNil)) (eSl (bVar 0) (oSome (eC (.int 1))) oNone)))
def m_boarded_loads : List Val → Dk → Out Dk Val := runF 0 b_boarded_loads
theorem ok_boarded_loads (hP : B.P = P) (hK : B.K = K) (hw : B.w = w) (T : Tx K mg) (hM : TabsB base mg) : FnG P w K mg base CX0 1 T.d_boarded_loads.f T.d_boarded_loads.fd p_boarded_loads (spP B 2 m_boarded_loads) := by
  exact fg_pure hP hK hw T.d_boarded_loads.F sc_boarded_loads b_boarded_loads rfl (fun cdv A outer s H E c hr =>
    (ds_one (ds_ret ((de_add c.hK ((de_tup (dv_cons (de_add c.hK ((de_ix c.hK (db_var 0 (pv 0)) (de_int).lent)).lent ((de_ix c.hK (db_var 1 (pv 1)) (de_int).lent)).lent) dv_nil))).lent ((de_sl c.hK (db_var 0 (pv 0)) (do_some (de_int).lent) do_none)).lent)).lent)))
abbrev n_turned_loads : List Str := ["loads"]
abbrev p_turned_loads : List Str := ["loads"]
theorem sc_turned_loads : FnScope n_turned_loads p_turned_loads (defScope s_turned_loads) := ⟨rfl, rfl, rfl, by decide +kernel, rfl, by decide +kernel, by decide +kernel⟩
def b_turned_loads : Sx Dk :=
  (sRet (eBin opAdd (eSeq .tuple (aCons (eC (.int 0)) aNil)) (eSl (bVar 0) oNone (oSome (eUn opNeg (eC (.int 1)))))))
def m_turned_loads : List Val → Dk → Out Dk Val := runF 0 b_turned_loads
theorem ok_turned_loads (hP : B.P = P) (hK : B.K = K) (hw : B.w = w) (T : Tx K mg) (hM : TabsB base mg) : FnG P w K mg base CX0 1 T.d_turned_loads.f T.d_turned_loads.fd p_turned_loads (spP B 1 m_turned_loads) := by
  exact fg_pure hP hK hw T.d_turned_loads.F sc_turned_loads b_turned_loads rfl (fun cdv A outer s H E c hr =>
    (ds_one (ds_ret ((de_add c.hK ((de_tup (dv_cons de_int dv_nil))).lent ((de_sl c.hK (db_var 0 (pv 0)) do_none (do_some ((de_neg (de_int).lent)).lent))).lent)).lent)))
abbrev n_may : List Str := ["wheel", "stand", "deed", "loads", "line", "waited"]
abbrev p_may : List Str := ["wheel", "stand", "deed"]
theorem sc_may : FnScope n_may p_may (defScope s_may) := ⟨rfl, rfl, rfl, by decide +kernel, rfl, by decide +kernel, by decide +kernel⟩
def b_may : Sx Dk :=
  (sSeq (sUnp (btT (btsC (btN 3) (btsC (btN 4) (btsC (btN 5) btsN)))) (eVar 1))
    (sSeq (sIf (tOf (eBin opEq (bVar 2) (eC (.str "board"))))
    (sRet (eAnd (eBin (opRel fun i j => decide (i ≤ j)) (eBin opAdd (eBin opIx (bVar 3) (eC (.int 0))) (eBin opIx (bVar 4) (eC (.int 0)))) (eBin opIx (bVar 0) (eC (.int 1)))) (eFn 2 m_is_upright (aCons (eVar 0) (aCons (eFn 2 m_boarded_loads (aCons (eVar 3) (aCons (eVar 4) aNil))) aNil)))))
    sNil)
    (sRet (eAnd (eBin (opRel fun i j => decide (i < j)) (bVar 5) (eBin opIx (bVar 0) (eC (.int 4)))) (eFn 2 m_is_upright (aCons (eVar 0) (aCons (eFn 1 m_turned_loads (aCons (eVar 3) aNil)) aNil)))))))
def m_may : List Val → Dk → Out Dk Val := runF 3 b_may
theorem ok_may (hP : B.P = P) (hK : B.K = K) (hw : B.w = w) (T : Tx K mg) (hM : TabsB base mg) : FnG P w K mg base CX0 3 T.d_may.f T.d_may.fd p_may (spP B 3 m_may) := by
  have g_boarded_loads := ok_boarded_loads (P := P) (w := w) (base := base) hP hK hw T hM
  have g_is_upright := ok_is_upright (P := P) (w := w) (base := base) hP hK hw T hM
  have g_turned_loads := ok_turned_loads (P := P) (w := w) (base := base) hP hK hw T hM
  exact fg_pure hP hK hw T.d_may.F sc_may b_may rfl (fun cdv A outer s H E c hr =>
    (ds_cons (ds_unp (vs := [3, 4, 5]) (de_var 1 (pv 1)) (dg_tup c (dgs_cons (dg_name c.nd 3) (dgs_cons (dg_name c.nd 4) (dgs_cons (dg_name c.nd 5) dgs_nil))) (btsC_len (btsC_len (btsC_len btsN_len _) _) _)))
    (ds_cons (ds_if (dt_cmp (cd_eq c.hK c.u64) (db_var 2 (pv 2)) ((de_gstr T.c_BOARD.2)).lent)
    (ds_one (ds_ret ((de_and ((de_cmp cd_le ((de_add c.hK ((de_ix c.hK (db_var 3 (pv 3)) (de_int).lent)).lent ((de_ix c.hK (db_var 4 (pv 4)) (de_int).lent)).lent)).lent ((de_ix c.hK (db_var 0 (pv 0)) (de_int).lent)).lent)).lent (de_one (de_call c (g_is_upright) (hr.mono (by decide)) T.d_is_upright.g T.d_is_upright.F.kp (T.d_is_upright.F.binds (ps := p_is_upright) fun _ _ _ _ _ _ us hl => match us, hl with | [_, _], _ => rfl) (dv_cons (de_var 0 (pv 0)) (dv_cons (de_call c (g_boarded_loads) (hr.mono (by decide)) T.d_boarded_loads.g T.d_boarded_loads.F.kp (T.d_boarded_loads.F.binds (ps := p_boarded_loads) fun _ _ _ _ _ _ us hl => match us, hl with | [_, _], _ => rfl) (dv_cons (de_var 3 (pv 3)) (dv_cons (de_var 4 (pv 4)) dv_nil))) dv_nil)))))).lent))
    ds_nil)
    (ds_one (ds_ret ((de_and ((de_cmp cd_lt (db_var 5 (pv 5)) ((de_ix c.hK (db_var 0 (pv 0)) (de_int).lent)).lent)).lent (de_one (de_call c (g_is_upright) (hr.mono (by decide)) T.d_is_upright.g T.d_is_upright.F.kp (T.d_is_upright.F.binds (ps := p_is_upright) fun _ _ _ _ _ _ us hl => match us, hl with | [_, _], _ => rfl) (dv_cons (de_var 0 (pv 0)) (dv_cons (de_call c (g_turned_loads) (hr.mono (by decide)) T.d_turned_loads.g T.d_turned_loads.F.kp (T.d_turned_loads.F.binds (ps := p_turned_loads) fun _ _ _ _ _ _ us hl => match us, hl with | [_], _ => rfl) (dv_cons (de_var 3 (pv 3)) dv_nil)) dv_nil)))))).lent)))))
abbrev n_after : List Str := ["wheel", "stand", "deed", "size", "loads", "line", "waited"]
abbrev p_after : List Str := ["wheel", "stand", "deed", "size"]
theorem sc_after : FnScope n_after p_after (defScope s_after) := ⟨rfl, rfl, rfl, by decide +kernel, rfl, by decide +kernel, by decide +kernel⟩
def b_after : Sx Dk :=
  (sSeq (sUnp (btT (btsC (btN 4) (btsC (btN 5) (btsC (btN 6) btsN)))) (eVar 1))
    (sSeq (sIf (tOf (eBin opEq (bVar 2) (eC (.str "board"))))
    (sRet (eSeq .tuple (aCons (eFn 2 m_boarded_loads (aCons (eVar 4) (aCons (eVar 5) aNil))) (aCons (eBin opAdd (eSl (bVar 5) (oSome (eC (.int 1))) oNone) (eSeq .tuple (aCons (eVar 3) aNil))) (aCons (eC (.int 0)) aNil)))))
    sNil)
    (sRet (eSeq .tuple (aCons (eFn 1 m_turned_loads (aCons (eVar 4) aNil)) (aCons (eVar 5) (aCons (eBin opAdd (bVar 6) (eC (.int 1))) aNil)))))))
def m_after : List Val → Dk → Out Dk Val := runF 3 b_after
theorem ok_after (hP : B.P = P) (hK : B.K = K) (hw : B.w = w) (T : Tx K mg) (hM : TabsB base mg) : FnG P w K mg base CX0 2 T.d_after.f T.d_after.fd p_after (spP B 4 m_after) := by
  have g_boarded_loads := ok_boarded_loads (P := P) (w := w) (base := base) hP hK hw T hM
  have g_turned_loads := ok_turned_loads (P := P) (w := w) (base := base) hP hK hw T hM
  exact fg_pure hP hK hw T.d_after.F sc_after b_after rfl (fun cdv A outer s H E c hr =>
    (ds_cons (ds_unp (vs := [4, 5, 6]) (de_var 1 (pv 1)) (dg_tup c (dgs_cons (dg_name c.nd 4) (dgs_cons (dg_name c.nd 5) (dgs_cons (dg_name c.nd 6) dgs_nil))) (btsC_len (btsC_len (btsC_len btsN_len _) _) _)))
    (ds_cons (ds_if (dt_cmp (cd_eq c.hK c.u64) (db_var 2 (pv 2)) ((de_gstr T.c_BOARD.2)).lent)
    (ds_one (ds_ret ((de_tup (dv_cons (de_call c (g_boarded_loads) (hr.mono (by decide)) T.d_boarded_loads.g T.d_boarded_loads.F.kp (T.d_boarded_loads.F.binds (ps := p_boarded_loads) fun _ _ _ _ _ _ us hl => match us, hl with | [_, _], _ => rfl) (dv_cons (de_var 4 (pv 4)) (dv_cons (de_var 5 (pv 5)) dv_nil))) (dv_cons (de_add c.hK ((de_sl c.hK (db_var 5 (pv 5)) (do_some (de_int).lent) do_none)).lent ((de_tup (dv_cons (de_var 3 (pv 3)) dv_nil))).lent) (dv_cons de_int dv_nil))))).lent))
    ds_nil)
    (ds_one (ds_ret ((de_tup (dv_cons (de_call c (g_turned_loads) (hr.mono (by decide)) T.d_turned_loads.g T.d_turned_loads.F.kp (T.d_turned_loads.F.binds (ps := p_turned_loads) fun _ _ _ _ _ _ us hl => match us, hl with | [_], _ => rfl) (dv_cons (de_var 4 (pv 4)) dv_nil)) (dv_cons (de_var 5 (pv 5)) (dv_cons (de_add c.hK (db_var 6 (pv 6)) (de_int).lent) dv_nil))))).lent)))))
abbrev n_numbers_of : List Str := ["wheel", "stand", "loads", "line", "waited", "found"]
abbrev p_numbers_of : List Str := ["wheel", "stand"]
theorem sc_numbers_of : FnScope n_numbers_of p_numbers_of (defScope s_numbers_of) := ⟨rfl, rfl, rfl, by decide +kernel, rfl, by decide +kernel, by decide +kernel⟩
def b_numbers_of : Sx Dk :=
  (sSeq (sUnp (btT (btsC (btN 2) (btsC (btN 3) (btsC (btN 4) btsN)))) (eVar 1))
    (sSeq (sNewN 5 (nDisp ["load", "head", "waited", "lean"] (exsOf [(eBin opIx (bVar 2) (eC (.int 0))), (eBin opIx (bVar 3) (eC (.int 0))), (eVar 4), (eFn 2 m_lean (aCons (eVar 0) (aCons (eVar 2) aNil)))])))
    (sSeq (sPutS 5 (eC (.str "ahead")) (eFn 2 m_lean (aCons (eVar 0) (aCons (eFn 1 m_turned_loads (aCons (eVar 2) aNil)) aNil))))
    (sRet (bVar 5)))))
def m_numbers_of : List Val → Dk → Out Dk Val := runF 4 b_numbers_of
theorem ok_numbers_of (hP : B.P = P) (hK : B.K = K) (hw : B.w = w) (T : Tx K mg) (hM : TabsB base mg) : FnG P w K mg base CX0 2 T.d_numbers_of.f T.d_numbers_of.fd p_numbers_of (spP B 2 m_numbers_of) := by
  have g_lean := ok_lean (P := P) (w := w) (base := base) hP hK hw T hM
  have g_turned_loads := ok_turned_loads (P := P) (w := w) (base := base) hP hK hw T hM
  exact fg_pure hP hK hw T.d_numbers_of.F sc_numbers_of b_numbers_of rfl (fun cdv A outer s H E c hr =>
    (ds_cons (ds_unp (vs := [2, 3, 4]) (de_var 1 (pv 1)) (dg_tup c (dgs_cons (dg_name c.nd 2) (dgs_cons (dg_name c.nd 3) (dgs_cons (dg_name c.nd 4) dgs_nil))) (btsC_len (btsC_len (btsC_len btsN_len _) _) _)))
    (ds_cons (ds_newN c 5 (dn_disp ["load", "head", "waited", "lean"] [(eBin opIx (bVar 2) (eC (.int 0))), (eBin opIx (bVar 3) (eC (.int 0))), (eVar 4), (eFn 2 m_lean (aCons (eVar 0) (aCons (eVar 2) aNil)))] (pps_cons pe_str (de_ix c.hK (db_var 2 (pv 2)) (de_int).lent) (pps_cons pe_str (de_ix c.hK (db_var 3 (pv 3)) (de_int).lent) (pps_cons pe_str (de_var 4 (pv 4)) (pps_cons pe_str (de_call c (g_lean) (hr.mono (by decide)) T.d_lean.g T.d_lean.F.kp (T.d_lean.F.binds (ps := p_lean) fun _ _ _ _ _ _ us hl => match us, hl with | [_, _], _ => rfl) (dv_cons (de_var 0 (pv 0)) (dv_cons (de_var 2 (pv 2)) dv_nil))) pps_nil)))) rfl))
    (ds_cons (ds_putS c 5 (pv 5) (de_str).lent (de_call c (g_lean) (hr.mono (by decide)) T.d_lean.g T.d_lean.F.kp (T.d_lean.F.binds (ps := p_lean) fun _ _ _ _ _ _ us hl => match us, hl with | [_, _], _ => rfl) (dv_cons (de_var 0 (pv 0)) (dv_cons (de_call c (g_turned_loads) (hr.mono (by decide)) T.d_turned_loads.g T.d_turned_loads.F.kp (T.d_turned_loads.F.binds (ps := p_turned_loads) fun _ _ _ _ _ _ us hl => match us, hl with | [_], _ => rfl) (dv_cons (de_var 2 (pv 2)) dv_nil)) dv_nil))))
    (ds_one (ds_ret (db_var 5 (pv 5))))))))
abbrev n_deed : List Str := ["wheel", "rule", "stand", "numbers", "tests", "act", "what", "low", "high"]
abbrev p_deed : List Str := ["wheel", "rule", "stand"]
theorem sc_deed : FnScope n_deed p_deed (defScope s_deed) := ⟨rfl, rfl, rfl, by decide +kernel, rfl, by decide +kernel, by decide +kernel⟩
def b_deed : Sx Dk :=
  (sSeq (sSet 3 (eFn 2 m_numbers_of (aCons (eVar 0) (aCons (eVar 2) aNil))))
    (sSeq (sFor (iSeq (eVar 1)) (btT (btsC (btN 4) (btsC (btN 5) btsN)))
    (sIf (tOf (eCall oAll (aCons (eL (lLc (iSeq (bVar 4)) (btT (btsC (btN 6) (btsC (btN 7) (btsC (btN 8) btsN)))) xYes (eAnd (eBin (opRel fun i j => decide (i ≤ j)) (bVar 7) (eBin opDIx (bVar 3) (bVar 6))) (eBin (opRel fun i j => decide (i ≤ j)) (eBin opDIx (bVar 3) (bVar 6)) (bVar 8))) [6, 7, 8])) aNil)))
    (sIf (tOf (eFn 3 m_may (aCons (eVar 0) (aCons (eVar 2) (aCons (eVar 5) aNil)))))
    (sRet (bVar 5))
    sNil)
    sNil))
    (sRet (eC .none))))
def m_deed : List Val → Dk → Out Dk Val := runF 6 b_deed
theorem ok_deed (hP : B.P = P) (hK : B.K = K) (hw : B.w = w) (T : Tx K mg) (hM : TabsB base mg) : FnG P w K mg base CX0 4 T.d_deed.f T.d_deed.fd p_deed (spP B 3 m_deed) := by
  have g_may := ok_may (P := P) (w := w) (base := base) hP hK hw T hM
  have g_numbers_of := ok_numbers_of (P := P) (w := w) (base := base) hP hK hw T hM
  exact fg_pure hP hK hw T.d_deed.F sc_deed b_deed rfl (fun cdv A outer s H E c hr =>
    (ds_cons (ds_set c 3 (de_call c (g_numbers_of) (hr.mono (by decide)) T.d_numbers_of.g T.d_numbers_of.F.kp (T.d_numbers_of.F.binds (ps := p_numbers_of) fun _ _ _ _ _ _ us hl => match us, hl with | [_, _], _ => rfl) (dv_cons (de_var 0 (pv 0)) (dv_cons (de_var 2 (pv 2)) dv_nil))))
    (ds_cons (ds_for (vs := [4, 5]) c PassesOwn.never (di_seq c.hK (de_var 1 (pv 1))) (dg_tup c (dgs_cons (dg_name c.nd 4) (dgs_cons (dg_name c.nd 5) dgs_nil)) (btsC_len (btsC_len btsN_len _) _))
    (ds_one (ds_if (dt_val ((de_fun (op := oAll) (cr_all c.calm) (by rw [← c.hK]; exact cl_all) (by rfl) (T.nb_all) (by decide +kernel) (da_cons (((df_lc c (own := [("what", 6), ("low", 7), ("high", 8)]) (di_seqB c.hK (db_var 4 (pv 4))) (blkOk_by (own := [("what", 6), ("low", 7), ("high", 8)]) (N := n_deed) (sc := defScope s_deed) (by decide +kernel)) (fun s H C cl fp => (dg_tup (c.blk s H _ (compEnvC _ cl C _) fp) (dgs_cons (dg_name (c.blk s H _ (compEnvC _ cl C _) fp).nd 6) (dgs_cons (dg_name (c.blk s H _ (compEnvC _ cl C _) fp).nd 7) (dgs_cons (dg_name (c.blk s H _ (compEnvC _ cl C _) fp).nd 8) dgs_nil))) (btsC_len (btsC_len (btsC_len btsN_len _) _) _))) (fun s H C cl fp => dts_nil) (fun s H C cl fp => (de_and ((de_cmp cd_le (db_var 7 (pv 7)) ((de_dix (c.blk s H _ (compEnvC _ cl C _) fp) (db_var 3 (pv 3)) (db_var 6 (pv 6)))).lent)).lent (de_one (de_cmp cd_le ((de_dix (c.blk s H _ (compEnvC _ cl C _) fp) (db_var 3 (pv 3)) (db_var 6 (pv 6)))).lent (db_var 8 (pv 8)))))))).de).lent da_nil))).lent)
    (ds_one (ds_if (dt_val ((de_call c (g_may) (hr.mono (by decide)) T.d_may.g T.d_may.F.kp (T.d_may.F.binds (ps := p_may) fun _ _ _ _ _ _ us hl => match us, hl with | [_, _, _], _ => rfl) (dv_cons (de_var 0 (pv 0)) (dv_cons (de_var 2 (pv 2)) (dv_cons (de_var 5 (pv 5)) dv_nil))))).lent)
    (ds_one (ds_ret (db_var 5 (pv 5))))
    ds_nil))
    ds_nil)))
    (ds_one (ds_ret (de_non).lent)))))
abbrev n_walked : List Str := ["wheel", "rules", "stand", "acts", "rule", "act"]
abbrev p_walked : List Str := ["wheel", "rules", "stand"]
theorem sc_walked : FnScope n_walked p_walked (defScope s_walked) := ⟨rfl, rfl, rfl, by decide +kernel, rfl, by decide +kernel, by decide +kernel⟩
def b_walked : Sx Dk :=
  (sSeq (sSet 3 (eL (lLc (iSeq (bVar 1)) (btN 4) xYes (eFn 3 m_deed (aCons (eVar 0) (aCons (eVar 4) (aCons (eVar 2) aNil)))) [4])))
    (sSeq (sWh FU (tOf (eCall oAll (aCons (eL (lLc (iSeq (bVar 3)) (btN 5) xYes (eBin opEq (bVar 5) (eC (.str "turn"))) [5])) aNil)))
    (sSeq (sSet 2 (eFn 4 m_after (aCons (eVar 0) (aCons (eVar 2) (aCons (eC (.str "turn")) (aCons (eC (.int 0)) aNil))))))
    (sSet 3 (eL (lLc (iSeq (bVar 1)) (btN 4) xYes (eFn 3 m_deed (aCons (eVar 0) (aCons (eVar 4) (aCons (eVar 2) aNil)))) [4])))))
    (sRet (eSeq .tuple (aCons (eVar 2) (aCons (eVar 3) aNil))))))
def m_walked : List Val → Dk → Out Dk Val := runF 3 b_walked
theorem ok_walked (hP : B.P = P) (hK : B.K = K) (hw : B.w = w) (T : Tx K mg) (hM : TabsB base mg) : FnG P w K mg base CX0 5 T.d_walked.f T.d_walked.fd p_walked (spP B 3 m_walked) := by
  have g_after := ok_after (P := P) (w := w) (base := base) hP hK hw T hM
  have g_deed := ok_deed (P := P) (w := w) (base := base) hP hK hw T hM
  exact fg_pure hP hK hw T.d_walked.F sc_walked b_walked rfl (fun cdv A outer s H E c hr =>
    (ds_cons (ds_setLc c 3 (own := [("rule", 4)]) (di_seqB c.hK (db_var 1 (pv 1))) (blkOk_by (own := [("rule", 4)]) (N := n_walked) (sc := defScope s_walked) (by decide +kernel)) (fun s H C cl fp => (dg_name (c.blk s H _ (compEnvC _ cl C _) fp).nd 4)) (fun s H C cl fp => dts_nil) (fun s H C cl fp => (de_call (c.blk s H _ (compEnvC _ cl C _) fp) (g_deed) (hr.mono (by decide)) T.d_deed.g T.d_deed.F.kp (T.d_deed.F.binds (ps := p_deed) fun _ _ _ _ _ _ us hl => match us, hl with | [_, _, _], _ => rfl) (dv_cons (de_var 0 (pv 0)) (dv_cons (de_var 4 (pv 4)) (dv_cons (de_var 2 (pv 2)) dv_nil))))))
    (ds_cons (ds_while FU PassesOwn.never (dt_val ((de_fun (op := oAll) (cr_all c.calm) (by rw [← c.hK]; exact cl_all) (by rfl) (T.nb_all) (by decide +kernel) (da_cons (((df_lc c (own := [("act", 5)]) (di_seqB c.hK (db_var 3 (pv 3))) (blkOk_by (own := [("act", 5)]) (N := n_walked) (sc := defScope s_walked) (by decide +kernel)) (fun s H C cl fp => (dg_name (c.blk s H _ (compEnvC _ cl C _) fp).nd 5)) (fun s H C cl fp => dts_nil) (fun s H C cl fp => (de_cmp (cd_eq (c.blk s H _ (compEnvC _ cl C _) fp).hK (c.blk s H _ (compEnvC _ cl C _) fp).u64) (db_var 5 (pv 5)) ((de_gstr T.c_TURN.2)).lent)))).de).lent da_nil))).lent)
    (ds_cons (ds_set c 2 (de_call c (g_after) (hr.mono (by decide)) T.d_after.g T.d_after.F.kp (T.d_after.F.binds (ps := p_after) fun _ _ _ _ _ _ us hl => match us, hl with | [_, _, _, _], _ => rfl) (dv_cons (de_var 0 (pv 0)) (dv_cons (de_var 2 (pv 2)) (dv_cons (de_gstr T.c_TURN.2) (dv_cons de_int dv_nil))))))
    (ds_one (ds_setLc c 3 (own := [("rule", 4)]) (di_seqB c.hK (db_var 1 (pv 1))) (blkOk_by (own := [("rule", 4)]) (N := n_walked) (sc := defScope s_walked) (by decide +kernel)) (fun s H C cl fp => (dg_name (c.blk s H _ (compEnvC _ cl C _) fp).nd 4)) (fun s H C cl fp => dts_nil) (fun s H C cl fp => (de_call (c.blk s H _ (compEnvC _ cl C _) fp) (g_deed) (hr.mono (by decide)) T.d_deed.g T.d_deed.F.kp (T.d_deed.F.binds (ps := p_deed) fun _ _ _ _ _ _ us hl => match us, hl with | [_, _, _], _ => rfl) (dv_cons (de_var 0 (pv 0)) (dv_cons (de_var 4 (pv 4)) (dv_cons (de_var 2 (pv 2)) dv_nil)))))))))
    (ds_one (ds_ret ((de_tup (dv_cons (de_var 2 (pv 2)) (dv_cons (de_var 3 (pv 3)) dv_nil)))).lent)))))
abbrev n_first_queue : List Str := ["wheel", "rules", "is_sought", "fresh", "known", "stand", "later", "queue", "here", "acts", "size", "act", "behind"]
abbrev p_first_queue : List Str := ["wheel", "rules", "is_sought"]
theorem sc_first_queue : FnScope n_first_queue p_first_queue (defScope s_first_queue) := ⟨rfl, rfl, rfl, by decide +kernel, rfl, by decide +kernel, by decide +kernel⟩
def b_first_queue : Sx Dk :=
  (sSeq (sPar [3, 4] (mNew (nL (lLc (iSeq (eFn 1 m_starts (aCons (eVar 0) aNil))) (btN 5) xYes (eSeq .tuple (aCons (eVar 5) (aCons (eBin opIx (bVar 5) (eC (.int 1))) aNil))) [5])) (mNew (nDictN (eL (lLc (iSeq (eFn 1 m_starts (aCons (eVar 0) aNil))) (btN 5) xYes (eSeq .tuple (aCons (eVar 5) (aCons (eC (.bool true)) aNil))) [5]))) mNil)))
    (sSeq (sWh FU (tOf (eBin opNe (bVar 3) (eL (lSeq aNil))))
    (sSeq (sNew 6 (lSeq aNil))
    (sSeq (sFrz 3 (sFor (iSeq (eVar 3)) (btT (btsC (btN 5) (btsC (btN 7) btsN)))
    (sSeq (sUnp (btT (btsC (btN 8) (btsC (btN 9) btsN))) (eFn 3 m_walked (aCons (eVar 0) (aCons (eVar 1) (aCons (eVar 5) aNil)))))
    (sSeq (sIf (tOf (eCallF lamT 2 (aCons (eVar 9) aNil)))
    (sRet (bVar 7))
    sNil)
    (sFor (iSeq (eIf (tOf (eCall oAll (aCons (eL (lLc (iSeq (bVar 9)) (btN 11) xYes (eBin opEq (bVar 11) (eC (.str "board"))) [11])) aNil))) (eBin opIx (bVar 0) (eC (.int 2))) (eSeq .tuple aNil))) (btN 10)
    (sSeq (sSet 12 (eFn 4 m_after (aCons (eVar 0) (aCons (eVar 8) (aCons (eC (.str "board")) (aCons (eVar 10) aNil))))))
    (sIf (tOf (eBin opNotInN (bVar 12) (bVar 4)))
    (sSeq (sPutN 4 (eVar 12) (eC (.bool true)))
    (sApp 6 (eSeq .tuple (aCons (eVar 12) (aCons (eBin opAdd (bVar 7) (eSeq .tuple (aCons (eVar 10) aNil))) aNil)))))
    sNil)))))))
    (sMove 3 6))))
    (sRet (eC .none))))
def m_first_queue : List Val → Dk → Out Dk Val := runF 10 b_first_queue
theorem ok_first_queue (hP : B.P = P) (hK : B.K = K) (hw : B.w = w) (T : Tx K mg) (hM : TabsB base mg) : FnG P w K mg base CX0 6 T.d_first_queue.f T.d_first_queue.fd p_first_queue (spP B 3 m_first_queue) := by
  have g_after := ok_after (P := P) (w := w) (base := base) hP hK hw T hM
  have g_starts := ok_starts (P := P) (w := w) (base := base) hP hK hw T hM
  have g_walked := ok_walked (P := P) (w := w) (base := base) hP hK hw T hM
  have g_lams := ok_lams (P := P) (w := w) (base := base) hP hK hw T
  exact fg_pure hP hK hw T.d_first_queue.F sc_first_queue b_first_queue rfl (fun cdv A outer s H E c hr =>
    (ds_cons (ds_par2 c (dm_new ((df_lc c (own := [("stand", 5)]) (di_seqB c.hK ((de_call c (g_starts) (hr.mono (by decide)) T.d_starts.g T.d_starts.F.kp (T.d_starts.F.binds (ps := p_starts) fun _ _ _ _ _ _ us hl => match us, hl with | [_], _ => rfl) (dv_cons (de_var 0 (pv 0)) dv_nil))).lent) (blkOk_by (own := [("stand", 5)]) (N := n_first_queue) (sc := defScope s_first_queue) (by decide +kernel)) (fun s H C cl fp => (dg_name (c.blk s H _ (compEnvC _ cl C _) fp).nd 5)) (fun s H C cl fp => dts_nil) (fun s H C cl fp => (de_tup (dv_cons (de_var 5 (pv 5)) (dv_cons (de_ix (c.blk s H _ (compEnvC _ cl C _) fp).hK (db_var 5 (pv 5)) (de_int).lent) dv_nil)))))).dn (dm_new (dn_dictN c T.nb_dict ((df_lc c (own := [("stand", 5)]) (di_seqB c.hK ((de_call c (g_starts) (hr.mono (by decide)) T.d_starts.g T.d_starts.F.kp (T.d_starts.F.binds (ps := p_starts) fun _ _ _ _ _ _ us hl => match us, hl with | [_], _ => rfl) (dv_cons (de_var 0 (pv 0)) dv_nil))).lent) (blkOk_by (own := [("stand", 5)]) (N := n_first_queue) (sc := defScope s_first_queue) (by decide +kernel)) (fun s H C cl fp => (dg_name (c.blk s H _ (compEnvC _ cl C _) fp).nd 5)) (fun s H C cl fp => dts_nil) (fun s H C cl fp => (de_tup (dv_cons (de_var 5 (pv 5)) (dv_cons de_bl dv_nil)))))).de) dm_nil)))
    (ds_cons (ds_while FU PassesOwn.never (dt_cmp (cd_ne c.hK c.u64) (db_var 3 (pv 3)) (((df_lst dv_nil)).de).lent)
    (ds_cons (ds_new c 6 (df_lst dv_nil))
    (ds_cons (ds_frz 3 (ds_for (vs := [5, 7]) c PassesOwn.never (di_seq c.hK (de_var 3 (pv 3))) (dg_tup c (dgs_cons (dg_name c.nd 5) (dgs_cons (dg_name c.nd 7) dgs_nil)) (btsC_len (btsC_len btsN_len _) _))
    (ds_cons (ds_unp (vs := [8, 9]) (de_call c (g_walked) (hr.mono (by decide)) T.d_walked.g T.d_walked.F.kp (T.d_walked.F.binds (ps := p_walked) fun _ _ _ _ _ _ us hl => match us, hl with | [_, _, _], _ => rfl) (dv_cons (de_var 0 (pv 0)) (dv_cons (de_var 1 (pv 1)) (dv_cons (de_var 5 (pv 5)) dv_nil)))) (dg_tup c (dgs_cons (dg_name c.nd 8) (dgs_cons (dg_name c.nd 9) dgs_nil)) (btsC_len (btsC_len btsN_len _) _)))
    (ds_cons (ds_if (dt_val ((de_callF c g_lams (hr.mono (by decide)) (pv 2) (dv_cons (de_var 9 (pv 9)) dv_nil))).lent)
    (ds_one (ds_ret (db_var 7 (pv 7))))
    ds_nil)
    (ds_one (ds_for (vs := [10]) c PassesOwn.never (di_seq c.hK (de_if (dt_val ((de_fun (op := oAll) (cr_all c.calm) (by rw [← c.hK]; exact cl_all) (by rfl) (T.nb_all) (by decide +kernel) (da_cons (((df_lc c (own := [("act", 11)]) (di_seqB c.hK (db_var 9 (pv 9))) (blkOk_by (own := [("act", 11)]) (N := n_first_queue) (sc := defScope s_first_queue) (by decide +kernel)) (fun s H C cl fp => (dg_name (c.blk s H _ (compEnvC _ cl C _) fp).nd 11)) (fun s H C cl fp => dts_nil) (fun s H C cl fp => (de_cmp (cd_eq (c.blk s H _ (compEnvC _ cl C _) fp).hK (c.blk s H _ (compEnvC _ cl C _) fp).u64) (db_var 11 (pv 11)) ((de_gstr T.c_BOARD.2)).lent)))).de).lent da_nil))).lent) (de_ix c.hK (db_var 0 (pv 0)) (de_int).lent) (de_tup dv_nil))) (dg_name c.nd 10)
    (ds_cons (ds_set c 12 (de_call c (g_after) (hr.mono (by decide)) T.d_after.g T.d_after.F.kp (T.d_after.F.binds (ps := p_after) fun _ _ _ _ _ _ us hl => match us, hl with | [_, _, _, _], _ => rfl) (dv_cons (de_var 0 (pv 0)) (dv_cons (de_var 8 (pv 8)) (dv_cons (de_gstr T.c_BOARD.2) (dv_cons (de_var 10 (pv 10)) dv_nil))))))
    (ds_one (ds_if (dt_cmp (cd_notInN c) (db_var 12 (pv 12)) (db_var 4 (pv 4)))
    (ds_cons (ds_putN c 4 (pv 4) (de_var 12 (pv 12)) de_bl)
    (ds_one (ds_app c 6 (pe_bm PySem.F.plainAttrs_list PySem.F.slot_list_append PySem.F.type_list_append mt_append (pv 6) (pa_cons (de_tup (dv_cons (de_var 12 (pv 12)) (dv_cons (de_add c.hK (db_var 7 (pv 7)) ((de_tup (dv_cons (de_var 10 (pv 10)) dv_nil))).lent) dv_nil))) pa_nil)))))
    ds_nil)))))))))
    (ds_one (ds_move c 3 6)))))
    (ds_one (ds_ret (de_non).lent)))))
abbrev n_parted : List Str := ["wheel", "rule", "other"]
abbrev p_parted : List Str := ["wheel", "rule", "other"]
theorem sc_parted : FnScope n_parted p_parted (defScope s_parted) := ⟨rfl, rfl, rfl, by decide +kernel, rfl, by decide +kernel, by decide +kernel⟩
def b_parted : Sx Dk :=
  (sRet (eFn 3 m_first_queue (aCons (eVar 0) (aCons (eSeq .tuple (aCons (eVar 1) (aCons (eVar 2) aNil))) (aCons (eLam 0) aNil)))))
def m_parted : List Val → Dk → Out Dk Val := runF 0 b_parted
theorem ok_parted (hP : B.P = P) (hK : B.K = K) (hw : B.w = w) (T : Tx K mg) (hM : TabsB base mg) : FnG P w K mg base CX0 7 T.d_parted.f T.d_parted.fd p_parted (spP B 3 m_parted) := by
  have g_first_queue := ok_first_queue (P := P) (w := w) (base := base) hP hK hw T hM
  exact fg_pureM hP hK hw T.d_parted.F T.k_parted sc_parted b_parted rfl (fun cdv A outer s H E mk c hr =>
    (ds_one (ds_ret ((de_call c (g_first_queue) (hr.mono (by decide)) T.d_first_queue.g T.d_first_queue.F.kp (T.d_first_queue.F.binds (ps := p_first_queue) fun _ _ _ _ _ _ us hl => match us, hl with | [_, _, _], _ => rfl) (dv_cons (de_var 0 (pv 0)) (dv_cons (de_tup (dv_cons (de_var 1 (pv 1)) (dv_cons (de_var 2 (pv 2)) dv_nil))) (dv_cons (de_lamM (n := 0) (P := 95) mk hM rfl rfl (by decide +kernel) tabs_nd rfl (by decide +kernel)) dv_nil))))).lent)))
abbrev n__law_draw : List Str := ["_law_deck_here", "_law_many", "_law_found", "_law_cell", "_law_mixed"]
abbrev p__law_draw : List Str := ["_law_deck_here", "_law_many"]
theorem sc__law_draw : FnScope n__law_draw p__law_draw (defScope s__law_draw) := ⟨rfl, rfl, rfl, by decide +kernel, rfl, by decide +kernel, by decide +kernel⟩
def b__law_draw : Sx Dk :=
  (sSeq (sDk 0 3 (eBin opAdd (eDk 0 3) (eC (.int 1))))
    (sSeq (sIf (tOf (eBin (opRel fun i j => decide (j < i)) (eDk 0 2) (eC (.int 0))))
    (sSeq (sSet 2 (eBin opMod (eCall oInt (aCons (eDk 0 2) aNil)) (bVar 1)))
    (sSeq (sDk 0 2 (eBin opDiv (eDk 0 2) (bVar 1)))
    (sRet (bVar 2))))
    sNil)
    (sSeq (sSet 3 (eC (.int 61)))
    (sSeq (sIf (xDkNe 0)
    (sSet 3 (eDkC 0 (eBin opMod (eCall oInt (aCons (eDk 0 1) aNil)) (eDkL 0))))
    sNil)
    (sSeq (sDk 0 1 (eBin opAdd (eDk 0 1) (eC (.int 1))))
    (sSeq (sIf (xAnd (tOf (eBin (opRel fun i j => decide (j ≤ i)) (eCall oAbs (aCons (bVar 3) aNil)) (eBin opPow (eC (.int 10)) (eC (.int 18))))) (tOf (eBin (opRel fun i j => decide (i ≤ j)) (eDk 0 1) (eDkL 0))))
    (sSeq (sDk 0 2 (eBin opDiv (eCall oAbs (aCons (bVar 3) aNil)) (bVar 1)))
    (sRet (eBin opMod (eCall oInt (aCons (eCall oAbs (aCons (bVar 3) aNil)) aNil)) (bVar 1))))
    sNil)
    (sSeq (sSet 4 (eBin opMod (eBin opPow (eCall oInt (aCons (eBin opAdd (eBin opMod (eCall oInt (aCons (bVar 3) aNil)) (eC (.int 2147483629))) (eBin opMul (eC (.int 49979687)) (eDk 0 3))) aNil)) (eC (.int 5))) (eC (.int 2147483647))))
    (sSeq (sSet 4 (eBin opMod (eBin opPow (eCall oInt (aCons (eBin opAdd (eBin opMul (bVar 4) (eBin opAdd (eBin opMul (eC (.int 2)) (eDk 0 3)) (eC (.int 3)))) (eC (.int 8887))) aNil)) (eC (.int 3))) (eC (.int 2147483587))))
    (sRet (eBin opMod (eBin opDiv (bVar 4) (eC (.int 64))) (bVar 1)))))))))))
def m__law_draw : List Val → Dk → Out Dk Val := runF 3 b__law_draw
theorem ok__law_draw (hP : B.P = P) (hK : B.K = K) (hw : B.w = w) (T : Tx K mg) (hM : TabsB base mg) : FnG P w K mg base CX0 1 T.d__law_draw.f T.d__law_draw.fd p__law_draw (spP B 2 m__law_draw) := by
  exact fg_pure hP hK hw T.d__law_draw.F sc__law_draw b__law_draw rfl (fun cdv A outer s H E c hr =>
    (ds_cons (ds_dk 0 3 (pv 0) (de_add c.hK ((de_dk 0 3 (pv 0))).lent (de_int).lent))
    (ds_cons (ds_if (dt_cmp cd_gt ((de_dk 0 2 (pv 0))).lent (de_int).lent)
    (ds_cons (ds_set c 2 (de_mod ((de_typ (op := oInt) call_int1 cl_int (by rfl) (T.nb_int) (by decide +kernel) (da_cons ((de_dk 0 2 (pv 0))).lent da_nil))).lent (db_var 1 (pv 1))))
    (ds_cons (ds_dk 0 2 (pv 0) (de_div ((de_dk 0 2 (pv 0))).lent (db_var 1 (pv 1))))
    (ds_one (ds_ret (db_var 2 (pv 2))))))
    ds_nil)
    (ds_cons (ds_set c 3 de_int)
    (ds_cons (ds_if (dt_dkne c 0 (pv 0))
    (ds_one (ds_set c 3 (de_dkc 0 (pv 0) ((de_mod ((de_typ (op := oInt) call_int1 cl_int (by rfl) (T.nb_int) (by decide +kernel) (da_cons ((de_dk 0 1 (pv 0))).lent da_nil))).lent ((de_dkl 0 (pv 0) (T.nb_len))).lent)).lent)))
    ds_nil)
    (ds_cons (ds_dk 0 1 (pv 0) (de_add c.hK ((de_dk 0 1 (pv 0))).lent (de_int).lent))
    (ds_cons (ds_if (dt_bool (dw_and (dt_cmp cd_ge ((de_fun (op := oAbs) call_abs cl_abs (by rfl) (T.nb_abs) (by decide +kernel) (da_cons (db_var 3 (pv 3)) da_nil))).lent ((de_pow (de_int).lent (de_int).lent)).lent) (dw_and1 (dt_cmp cd_le ((de_dk 0 1 (pv 0))).lent ((de_dkl 0 (pv 0) (T.nb_len))).lent))))
    (ds_cons (ds_dk 0 2 (pv 0) (de_div ((de_fun (op := oAbs) call_abs cl_abs (by rfl) (T.nb_abs) (by decide +kernel) (da_cons (db_var 3 (pv 3)) da_nil))).lent (db_var 1 (pv 1))))
    (ds_one (ds_ret ((de_mod ((de_typ (op := oInt) call_int1 cl_int (by rfl) (T.nb_int) (by decide +kernel) (da_cons ((de_fun (op := oAbs) call_abs cl_abs (by rfl) (T.nb_abs) (by decide +kernel) (da_cons (db_var 3 (pv 3)) da_nil))).lent da_nil))).lent (db_var 1 (pv 1)))).lent)))
    ds_nil)
    (ds_cons (ds_set c 4 (de_mod ((de_pow ((de_typ (op := oInt) call_int1 cl_int (by rfl) (T.nb_int) (by decide +kernel) (da_cons ((de_add c.hK ((de_mod ((de_typ (op := oInt) call_int1 cl_int (by rfl) (T.nb_int) (by decide +kernel) (da_cons (db_var 3 (pv 3)) da_nil))).lent (de_int).lent)).lent ((de_mul c.hK (de_int).lent ((de_dk 0 3 (pv 0))).lent)).lent)).lent da_nil))).lent (de_int).lent)).lent (de_int).lent))
    (ds_cons (ds_set c 4 (de_mod ((de_pow ((de_typ (op := oInt) call_int1 cl_int (by rfl) (T.nb_int) (by decide +kernel) (da_cons ((de_add c.hK ((de_mul c.hK (db_var 4 (pv 4)) ((de_add c.hK ((de_mul c.hK (de_int).lent ((de_dk 0 3 (pv 0))).lent)).lent (de_int).lent)).lent)).lent (de_int).lent)).lent da_nil))).lent (de_int).lent)).lent (de_int).lent))
    (ds_one (ds_ret ((de_mod ((de_div (db_var 4 (pv 4)) (de_int).lent)).lent (db_var 1 (pv 1)))).lent)))))))))))
abbrev n__law_one : List Str := ["_law_deck_here", "_law_items"]
abbrev p__law_one : List Str := ["_law_deck_here", "_law_items"]
theorem sc__law_one : FnScope n__law_one p__law_one (defScope s__law_one) := ⟨rfl, rfl, rfl, by decide +kernel, rfl, by decide +kernel, by decide +kernel⟩
def b__law_one : Sx Dk :=
  (sRet (eBin opIx (bVar 1) (eFn 2 m__law_draw (aCons (eVar 0) (aCons (eCall oLen (aCons (bVar 1) aNil)) aNil)))))
def m__law_one : List Val → Dk → Out Dk Val := runF 0 b__law_one
theorem ok__law_one (hP : B.P = P) (hK : B.K = K) (hw : B.w = w) (T : Tx K mg) (hM : TabsB base mg) : FnG P w K mg base CX0 2 T.d__law_one.f T.d__law_one.fd p__law_one (spP B 2 m__law_one) := by
  have g__law_draw := ok__law_draw (P := P) (w := w) (base := base) hP hK hw T hM
  exact fg_pure hP hK hw T.d__law_one.F sc__law_one b__law_one rfl (fun cdv A outer s H E c hr =>
    (ds_one (ds_ret ((de_ix c.hK (db_var 1 (pv 1)) ((de_call c (g__law_draw) (hr.mono (by decide)) T.d__law_draw.g T.d__law_draw.F.kp (T.d__law_draw.F.binds (ps := p__law_draw) fun _ _ _ _ _ _ us hl => match us, hl with | [_, _], _ => rfl) (dv_cons (de_var 0 (pv 0)) (dv_cons (de_fun (op := oLen) call_len (by rw [← c.hK]; exact cl_len) (by rfl) (T.nb_len) boot_len (da_cons (db_var 1 (pv 1)) da_nil)) dv_nil)))).lent)).lent)))
abbrev n__law_count : List Str := ["_law_weights", "_law_room", "_law_sizes", "_law_patience", "_law_look", "_law_found", "_law_place", "_law_k"]
abbrev p__law_count : List Str := ["_law_weights", "_law_room", "_law_sizes", "_law_patience", "_law_look"]
theorem sc__law_count : FnScope n__law_count p__law_count (defScope s__law_count) := ⟨rfl, rfl, rfl, by decide +kernel, rfl, by decide +kernel, by decide +kernel⟩
def b__law_count : Sx Dk :=
  (sSeq (sSet 5 (eBin opAdd (bVar 3) (eC (.int 1))))
    (sSeq (sFor (iSeq (eVar 0)) (btN 6)
    (sSet 5 (eBin opMul (bVar 5) (eBin opAdd (bVar 1) (eC (.int 1))))))
    (sSeq (sFor (iRg1 (aCons (bVar 4) aNil)) (btN 7)
    (sSet 5 (eBin opMul (bVar 5) (eCall oLen (aCons (bVar 2) aNil)))))
    (sRet (bVar 5)))))
def m__law_count : List Val → Dk → Out Dk Val := runF 3 b__law_count
theorem ok__law_count (hP : B.P = P) (hK : B.K = K) (hw : B.w = w) (T : Tx K mg) (hM : TabsB base mg) : FnG P w K mg base CX0 1 T.d__law_count.f T.d__law_count.fd p__law_count (spP B 5 m__law_count) := by
  exact fg_pure hP hK hw T.d__law_count.F sc__law_count b__law_count rfl (fun cdv A outer s H E c hr =>
    (ds_cons (ds_set c 5 (de_add c.hK (db_var 3 (pv 3)) (de_int).lent))
    (ds_cons (ds_for (vs := [6]) c PassesOwn.never (di_seq c.hK (de_var 0 (pv 0))) (dg_name c.nd 6)
    (ds_one (ds_set c 5 (de_mul c.hK (db_var 5 (pv 5)) ((de_add c.hK (db_var 1 (pv 1)) (de_int).lent)).lent))))
    (ds_cons (ds_for (vs := [7]) c PassesOwn.never (di_range1 (T.nb_range) (da_cons (db_var 4 (pv 4)) da_nil)) (dg_name c.nd 7)
    (ds_one (ds_set c 5 (de_mul c.hK (db_var 5 (pv 5)) ((de_fun (op := oLen) call_len (by rw [← c.hK]; exact cl_len) (by rfl) (T.nb_len) boot_len (da_cons (db_var 2 (pv 2)) da_nil))).lent))))
    (ds_one (ds_ret (db_var 5 (pv 5))))))))
abbrev n__law_wheel : List Str := ["_law_deck_here", "_law_most", "_law_room", "_law_sizes", "_law_size", "_law_patience", "_law_look", "_law_wide", "_law_weights", "_law_place", "_law_far", "_law_bounds"]
abbrev p__law_wheel : List Str := ["_law_deck_here", "_law_most"]
theorem sc__law_wheel : FnScope n__law_wheel p__law_wheel (defScope s__law_wheel) := ⟨rfl, rfl, rfl, by decide +kernel, rfl, by decide +kernel, by decide +kernel⟩
def b__law_wheel : Sx Dk :=
  (sSeq (sSet 2 (eFn 2 m__law_one (aCons (eVar 0) (aCons (eL (lSeq (aCons (eC (.int 1)) (aCons (eC (.int 2)) (aCons (eC (.int 2)) (aCons (eC (.int 2)) (aCons (eC (.int 3)) (aCons (eC (.int 4)) aNil)))))))) aNil))))
    (sSeq (sSet 3 (eCall oTuple (aCons (eL (lLc (iRg2 (aCons (eC (.int 1)) (aCons (eBin opAdd (bVar 2) (eC (.int 1))) aNil))) (btN 4) (tOf (eBin (opRel fun i j => decide (j < i)) (eFn 2 m__law_draw (aCons (eVar 0) (aCons (eC (.int 3)) aNil))) (eC (.int 0)))) (eVar 4) [4])) aNil)))
    (sSeq (sSet 3 (eIf (tOf (eBin opNe (bVar 3) (eSeq .tuple aNil))) (eVar 3) (eSeq .tuple (aCons (eBin opAdd (eC (.int 1)) (eFn 2 m__law_draw (aCons (eVar 0) (aCons (eVar 2) aNil)))) aNil))))
    (sSeq (sPar [5, 6] (mVal (eFn 2 m__law_one (aCons (eVar 0) (aCons (eL (lSeq (aCons (eC (.int 1)) (aCons (eC (.int 1)) (aCons (eC (.int 2)) (aCons (eC (.int 2)) (aCons (eC (.int 3)) (aCons (eBin opAdd (eC (.int 1)) (eFn 2 m__law_draw (aCons (eVar 0) (aCons (eC (.int 6)) aNil)))) aNil)))))))) aNil))) (mVal (eFn 2 m__law_one (aCons (eVar 0) (aCons (eL (lSeq (aCons (eC (.int 1)) (aCons (eC (.int 1)) (aCons (eC (.int 1)) (aCons (eC (.int 2)) (aCons (eC (.int 3)) aNil))))))) aNil))) mNil)))
    (sSeq (sSet 7 (eFn 2 m__law_one (aCons (eVar 0) (aCons (eL (lSeq (aCons (eC (.int 1)) (aCons (eC (.int 1)) (aCons (eC (.int 2)) (aCons (eC (.int 9)) aNil)))))) aNil))))
    (sSeq (sSet 8 (eL (lLc (iRg1 (aCons (eFn 2 m__law_one (aCons (eVar 0) (aCons (eL (lSeq (aCons (eC (.int 2)) (aCons (eC (.int 3)) (aCons (eC (.int 3)) (aCons (eC (.int 4)) (aCons (eC (.int 5)) (aCons (eC (.int 6)) aNil)))))))) aNil))) aNil)) (btN 9) xYes (eBin opSub (eFn 2 m__law_draw (aCons (eVar 0) (aCons (eBin opAdd (eBin opMul (eC (.int 2)) (bVar 7)) (eC (.int 1))) aNil))) (bVar 7)) [9])))
    (sSeq (sWh FU (xAnd (tOf (eBin (opRel fun i j => decide (j < i)) (eCall oLen (aCons (bVar 8) aNil)) (eC (.int 2)))) (tOf (eBin (opRel fun i j => decide (j < i)) (eFn 5 m__law_count (aCons (eVar 8) (aCons (eVar 2) (aCons (eVar 3) (aCons (eVar 5) (aCons (eVar 6) aNil)))))) (bVar 1))))
    (sSet 8 (eSl (bVar 8) oNone (oSome (eUn opNeg (eC (.int 1)))))))
    (sSeq (sIf (tOf (eBin (opRel fun i j => decide (j < i)) (eFn 5 m__law_count (aCons (eVar 8) (aCons (eVar 2) (aCons (eVar 3) (aCons (eVar 5) (aCons (eVar 6) aNil)))))) (bVar 1)))
    (sPar [5, 6] (mVal (eC (.int 1)) (mVal (eC (.int 1)) mNil)))
    sNil)
    (sSeq (sSet 10 (eFn 2 m__law_one (aCons (eVar 0) (aCons (eL (lSeq (aCons (eC (.int 2)) (aCons (eC (.int 4)) (aCons (eC (.int 8)) (aCons (eC (.int 30)) aNil)))))) aNil))))
    (sSeq (sSet 11 (eSeq .tuple (aCons (eBin opSub (eC (.int 0)) (eFn 2 m__law_draw (aCons (eVar 0) (aCons (eVar 10) aNil)))) (aCons (eFn 2 m__law_draw (aCons (eVar 0) (aCons (eVar 10) aNil))) aNil))))
    (sRet (eSeq .tuple (aCons (eCall oTuple (aCons (bVar 8) aNil)) (aCons (eVar 2) (aCons (eVar 3) (aCons (eVar 11) (aCons (eVar 5) (aCons (eVar 6) aNil))))))))))))))))))
def m__law_wheel : List Val → Dk → Out Dk Val := runF 10 b__law_wheel
theorem ok__law_wheel (hP : B.P = P) (hK : B.K = K) (hw : B.w = w) (T : Tx K mg) (hM : TabsB base mg) : FnG P w K mg base CX0 3 T.d__law_wheel.f T.d__law_wheel.fd p__law_wheel (spP B 2 m__law_wheel) := by
  have g__law_count := ok__law_count (P := P) (w := w) (base := base) hP hK hw T hM
  have g__law_draw := ok__law_draw (P := P) (w := w) (base := base) hP hK hw T hM
  have g__law_one := ok__law_one (P := P) (w := w) (base := base) hP hK hw T hM
  exact fg_pure hP hK hw T.d__law_wheel.F sc__law_wheel b__law_wheel rfl (fun cdv A outer s H E c hr =>
    (ds_cons (ds_set c 2 (de_call c (g__law_one) (hr.mono (by decide)) T.d__law_one.g T.d__law_one.F.kp (T.d__law_one.F.binds (ps := p__law_one) fun _ _ _ _ _ _ us hl => match us, hl with | [_, _], _ => rfl) (dv_cons (de_var 0 (pv 0)) (dv_cons ((df_lst (dv_cons de_int (dv_cons de_int (dv_cons de_int (dv_cons de_int (dv_cons de_int (dv_cons de_int dv_nil)))))))).de dv_nil))))
    (ds_cons (ds_set c 3 (de_typ (op := oTuple) call_tuple_of (by rw [← c.hK]; exact cl_tuple) (by rfl) (T.nb_tuple) boot_tuple (da_cons (((df_lc c (own := [("_law_size", 4)]) (di_range2 (T.nb_range) (da_cons (de_int).lent (da_cons ((de_add c.hK (db_var 2 (pv 2)) (de_int).lent)).lent da_nil))) (blkOk_by (own := [("_law_size", 4)]) (N := n__law_wheel) (sc := defScope s__law_wheel) (by decide +kernel)) (fun s H C cl fp => (dg_name (c.blk s H _ (compEnvC _ cl C _) fp).nd 4)) (fun s H C cl fp => (dts_one (dt_cmp cd_gt ((de_call (c.blk s H _ (compEnvC _ cl C _) fp) (g__law_draw) (hr.mono (by decide)) T.d__law_draw.g T.d__law_draw.F.kp (T.d__law_draw.F.binds (ps := p__law_draw) fun _ _ _ _ _ _ us hl => match us, hl with | [_, _], _ => rfl) (dv_cons (de_var 0 (pv 0)) (dv_cons de_int dv_nil)))).lent (de_int).lent))) (fun s H C cl fp => (de_var 4 (pv 4))))).de).lent da_nil)))
    (ds_cons (ds_set c 3 (de_if (dt_cmp (cd_ne c.hK c.u64) (db_var 3 (pv 3)) ((de_tup dv_nil)).lent) (de_var 3 (pv 3)) (de_tup (dv_cons (de_add c.hK (de_int).lent ((de_call c (g__law_draw) (hr.mono (by decide)) T.d__law_draw.g T.d__law_draw.F.kp (T.d__law_draw.F.binds (ps := p__law_draw) fun _ _ _ _ _ _ us hl => match us, hl with | [_, _], _ => rfl) (dv_cons (de_var 0 (pv 0)) (dv_cons (de_var 2 (pv 2)) dv_nil)))).lent) dv_nil))))
    (ds_cons (ds_par2 c (dm_val (de_call c (g__law_one) (hr.mono (by decide)) T.d__law_one.g T.d__law_one.F.kp (T.d__law_one.F.binds (ps := p__law_one) fun _ _ _ _ _ _ us hl => match us, hl with | [_, _], _ => rfl) (dv_cons (de_var 0 (pv 0)) (dv_cons ((df_lst (dv_cons de_int (dv_cons de_int (dv_cons de_int (dv_cons de_int (dv_cons de_int (dv_cons (de_add c.hK (de_int).lent ((de_call c (g__law_draw) (hr.mono (by decide)) T.d__law_draw.g T.d__law_draw.F.kp (T.d__law_draw.F.binds (ps := p__law_draw) fun _ _ _ _ _ _ us hl => match us, hl with | [_, _], _ => rfl) (dv_cons (de_var 0 (pv 0)) (dv_cons de_int dv_nil)))).lent) dv_nil)))))))).de dv_nil))) (dm_val (de_call c (g__law_one) (hr.mono (by decide)) T.d__law_one.g T.d__law_one.F.kp (T.d__law_one.F.binds (ps := p__law_one) fun _ _ _ _ _ _ us hl => match us, hl with | [_, _], _ => rfl) (dv_cons (de_var 0 (pv 0)) (dv_cons ((df_lst (dv_cons de_int (dv_cons de_int (dv_cons de_int (dv_cons de_int (dv_cons de_int dv_nil))))))).de dv_nil))) dm_nil)))
    (ds_cons (ds_set c 7 (de_call c (g__law_one) (hr.mono (by decide)) T.d__law_one.g T.d__law_one.F.kp (T.d__law_one.F.binds (ps := p__law_one) fun _ _ _ _ _ _ us hl => match us, hl with | [_, _], _ => rfl) (dv_cons (de_var 0 (pv 0)) (dv_cons ((df_lst (dv_cons de_int (dv_cons de_int (dv_cons de_int (dv_cons de_int dv_nil)))))).de dv_nil))))
    (ds_cons (ds_setLc c 8 (own := [("_law_place", 9)]) (di_range1 (T.nb_range) (da_cons ((de_call c (g__law_one) (hr.mono (by decide)) T.d__law_one.g T.d__law_one.F.kp (T.d__law_one.F.binds (ps := p__law_one) fun _ _ _ _ _ _ us hl => match us, hl with | [_, _], _ => rfl) (dv_cons (de_var 0 (pv 0)) (dv_cons ((df_lst (dv_cons de_int (dv_cons de_int (dv_cons de_int (dv_cons de_int (dv_cons de_int (dv_cons de_int dv_nil)))))))).de dv_nil)))).lent da_nil)) (blkOk_by (own := [("_law_place", 9)]) (N := n__law_wheel) (sc := defScope s__law_wheel) (by decide +kernel)) (fun s H C cl fp => (dg_name (c.blk s H _ (compEnvC _ cl C _) fp).nd 9)) (fun s H C cl fp => dts_nil) (fun s H C cl fp => (de_sub ((de_call (c.blk s H _ (compEnvC _ cl C _) fp) (g__law_draw) (hr.mono (by decide)) T.d__law_draw.g T.d__law_draw.F.kp (T.d__law_draw.F.binds (ps := p__law_draw) fun _ _ _ _ _ _ us hl => match us, hl with | [_, _], _ => rfl) (dv_cons (de_var 0 (pv 0)) (dv_cons (de_add (c.blk s H _ (compEnvC _ cl C _) fp).hK ((de_mul (c.blk s H _ (compEnvC _ cl C _) fp).hK (de_int).lent (db_var 7 (pv 7)))).lent (de_int).lent) dv_nil)))).lent (db_var 7 (pv 7)))))
    (ds_cons (ds_while FU PassesOwn.never (dt_bool (dw_and (dt_cmp cd_gt ((de_fun (op := oLen) call_len (by rw [← c.hK]; exact cl_len) (by rfl) (T.nb_len) boot_len (da_cons (db_var 8 (pv 8)) da_nil))).lent (de_int).lent) (dw_and1 (dt_cmp cd_gt ((de_call c (g__law_count) (hr.mono (by decide)) T.d__law_count.g T.d__law_count.F.kp (T.d__law_count.F.binds (ps := p__law_count) fun _ _ _ _ _ _ us hl => match us, hl with | [_, _, _, _, _], _ => rfl) (dv_cons (de_var 8 (pv 8)) (dv_cons (de_var 2 (pv 2)) (dv_cons (de_var 3 (pv 3)) (dv_cons (de_var 5 (pv 5)) (dv_cons (de_var 6 (pv 6)) dv_nil))))))).lent (db_var 1 (pv 1))))))
    (ds_one (ds_set c 8 (de_sl c.hK (db_var 8 (pv 8)) do_none (do_some ((de_neg (de_int).lent)).lent)))))
    (ds_cons (ds_if (dt_cmp cd_gt ((de_call c (g__law_count) (hr.mono (by decide)) T.d__law_count.g T.d__law_count.F.kp (T.d__law_count.F.binds (ps := p__law_count) fun _ _ _ _ _ _ us hl => match us, hl with | [_, _, _, _, _], _ => rfl) (dv_cons (de_var 8 (pv 8)) (dv_cons (de_var 2 (pv 2)) (dv_cons (de_var 3 (pv 3)) (dv_cons (de_var 5 (pv 5)) (dv_cons (de_var 6 (pv 6)) dv_nil))))))).lent (db_var 1 (pv 1)))
    (ds_one (ds_parT c [5, 6] (dm_val de_int (dm_val de_int dm_nil)) (pgs_cons (pg_name (i := 5) c.nd rfl (by first | exact .inl rfl | exact .inr rfl)) (pgs_cons (pg_name (i := 6) c.nd rfl (by first | exact .inl rfl | exact .inr rfl)) pgs_nil))))
    ds_nil)
    (ds_cons (ds_set c 10 (de_call c (g__law_one) (hr.mono (by decide)) T.d__law_one.g T.d__law_one.F.kp (T.d__law_one.F.binds (ps := p__law_one) fun _ _ _ _ _ _ us hl => match us, hl with | [_, _], _ => rfl) (dv_cons (de_var 0 (pv 0)) (dv_cons ((df_lst (dv_cons de_int (dv_cons de_int (dv_cons de_int (dv_cons de_int dv_nil)))))).de dv_nil))))
    (ds_cons (ds_set c 11 (de_tup (dv_cons (de_sub (de_int).lent ((de_call c (g__law_draw) (hr.mono (by decide)) T.d__law_draw.g T.d__law_draw.F.kp (T.d__law_draw.F.binds (ps := p__law_draw) fun _ _ _ _ _ _ us hl => match us, hl with | [_, _], _ => rfl) (dv_cons (de_var 0 (pv 0)) (dv_cons (de_var 10 (pv 10)) dv_nil)))).lent) (dv_cons (de_call c (g__law_draw) (hr.mono (by decide)) T.d__law_draw.g T.d__law_draw.F.kp (T.d__law_draw.F.binds (ps := p__law_draw) fun _ _ _ _ _ _ us hl => match us, hl with | [_, _], _ => rfl) (dv_cons (de_var 0 (pv 0)) (dv_cons (de_var 10 (pv 10)) dv_nil))) dv_nil))))
    (ds_one (ds_ret ((de_tup (dv_cons (de_typ (op := oTuple) call_tuple_of (by rw [← c.hK]; exact cl_tuple) (by rfl) (T.nb_tuple) boot_tuple (da_cons (db_var 8 (pv 8)) da_nil)) (dv_cons (de_var 2 (pv 2)) (dv_cons (de_var 3 (pv 3)) (dv_cons (de_var 11 (pv 11)) (dv_cons (de_var 5 (pv 5)) (dv_cons (de_var 6 (pv 6)) dv_nil)))))))).lent)))))))))))))
abbrev n__law_lean : List Str := ["_law_wheel_here", "_law_loads", "_law_weight", "_law_load"]
abbrev p__law_lean : List Str := ["_law_wheel_here", "_law_loads"]
theorem sc__law_lean : FnScope n__law_lean p__law_lean (defScope s__law_lean) := ⟨rfl, rfl, rfl, by decide +kernel, rfl, by decide +kernel, by decide +kernel⟩
def b__law_lean : Sx Dk :=
  (sRet (eCall oSum (aCons (eL (lLc (iZip (aCons (eBin opIx (bVar 0) (eC (.int 0))) (aCons (bVar 1) aNil))) (btT (btsC (btN 2) (btsC (btN 3) btsN))) xYes (eBin opMul (bVar 2) (bVar 3)) [2, 3])) aNil)))
def m__law_lean : List Val → Dk → Out Dk Val := runF 2 b__law_lean
theorem ok__law_lean (hP : B.P = P) (hK : B.K = K) (hw : B.w = w) (T : Tx K mg) (hM : TabsB base mg) : FnG P w K mg base CX0 1 T.d__law_lean.f T.d__law_lean.fd p__law_lean (spP B 2 m__law_lean) := by
  exact fg_pure hP hK hw T.d__law_lean.F sc__law_lean b__law_lean rfl (fun cdv A outer s H E c hr =>
    (ds_one (ds_ret ((de_fun (op := oSum) (cr_sum c.calm) (by rw [← c.hK]; exact cl_sum) (by rfl) (T.nb_sum) (by decide +kernel) (da_cons (((df_lc c (own := [("_law_weight", 2), ("_law_load", 3)]) (di_zip c.hK (T.nb_zip) (da_cons ((de_ix c.hK (db_var 0 (pv 0)) (de_int).lent)).lent (da_cons (db_var 1 (pv 1)) da_nil))) (blkOk_by (own := [("_law_weight", 2), ("_law_load", 3)]) (N := n__law_lean) (sc := defScope s__law_lean) (by decide +kernel)) (fun s H C cl fp => (dg_tup (c.blk s H _ (compEnvC _ cl C _) fp) (dgs_cons (dg_name (c.blk s H _ (compEnvC _ cl C _) fp).nd 2) (dgs_cons (dg_name (c.blk s H _ (compEnvC _ cl C _) fp).nd 3) dgs_nil)) (btsC_len (btsC_len btsN_len _) _))) (fun s H C cl fp => dts_nil) (fun s H C cl fp => (de_mul (c.blk s H _ (compEnvC _ cl C _) fp).hK (db_var 2 (pv 2)) (db_var 3 (pv 3)))))).de).lent da_nil))).lent)))
abbrev n__law_fits : List Str := ["_law_wheel_here", "_law_loads", "_law_load"]
abbrev p__law_fits : List Str := ["_law_wheel_here", "_law_loads"]
theorem sc__law_fits : FnScope n__law_fits p__law_fits (defScope s__law_fits) := ⟨rfl, rfl, rfl, by decide +kernel, rfl, by decide +kernel, by decide +kernel⟩
def b__law_fits : Sx Dk :=
  (sSeq (sIf (tOf (eBin (opRel fun i j => decide (j < i)) (eCall oMax (aCons (eL (lLc (iSeq (bVar 1)) (btN 2) xYes (eCall oInt (aCons (bVar 2) aNil)) [2])) aNil)) (eBin opIx (bVar 0) (eC (.int 1)))))
    (sRet (eC (.bool false)))
    sNil)
    (sRet (eChain (opRel fun i j => decide (i ≤ j)) (opRel fun i j => decide (i ≤ j)) (eBin opIx (eBin opIx (bVar 0) (eC (.int 3))) (eC (.int 0))) (eFn 2 m__law_lean (aCons (eVar 0) (aCons (eVar 1) aNil))) (eBin opIx (eBin opIx (bVar 0) (eC (.int 3))) (eC (.int 1))))))
def m__law_fits : List Val → Dk → Out Dk Val := runF 1 b__law_fits
theorem ok__law_fits (hP : B.P = P) (hK : B.K = K) (hw : B.w = w) (T : Tx K mg) (hM : TabsB base mg) : FnG P w K mg base CX0 2 T.d__law_fits.f T.d__law_fits.fd p__law_fits (spP B 2 m__law_fits) := by
  have g__law_lean := ok__law_lean (P := P) (w := w) (base := base) hP hK hw T hM
  exact fg_pure hP hK hw T.d__law_fits.F sc__law_fits b__law_fits rfl (fun cdv A outer s H E c hr =>
    (ds_cons (ds_if (dt_cmp cd_gt ((de_fun (op := oMax) ((cr_max c.calm).or (call_max2 c.calm)) (by rw [← c.hK]; exact cl_max) (by rfl) (T.nb_max) (by decide +kernel) (da_cons (((df_lc c (own := [("_law_load", 2)]) (di_seqB c.hK (db_var 1 (pv 1))) (blkOk_by (own := [("_law_load", 2)]) (N := n__law_fits) (sc := defScope s__law_fits) (by decide +kernel)) (fun s H C cl fp => (dg_name (c.blk s H _ (compEnvC _ cl C _) fp).nd 2)) (fun s H C cl fp => dts_nil) (fun s H C cl fp => (de_typ (op := oInt) call_int1 cl_int (by rfl) (T.nb_int) (by decide +kernel) (da_cons (db_var 2 (pv 2)) da_nil))))).de).lent da_nil))).lent ((de_ix c.hK (db_var 0 (pv 0)) (de_int).lent)).lent)
    (ds_one (ds_ret (de_bl).lent))
    ds_nil)
    (ds_one (ds_ret ((de_chain cd_le cd_le ((de_ix c.hK ((de_ix c.hK (db_var 0 (pv 0)) (de_int).lent)).lent (de_int).lent)).lent ((de_call c (g__law_lean) (hr.mono (by decide)) T.d__law_lean.g T.d__law_lean.F.kp (T.d__law_lean.F.binds (ps := p__law_lean) fun _ _ _ _ _ _ us hl => match us, hl with | [_, _], _ => rfl) (dv_cons (de_var 0 (pv 0)) (dv_cons (de_var 1 (pv 1)) dv_nil)))).lent ((de_ix c.hK ((de_ix c.hK (db_var 0 (pv 0)) (de_int).lent)).lent (de_int).lent)).lent)).lent))))
abbrev n__law_rows : List Str := ["_law_items", "_law_many", "_law_found", "_law_k", "_law_longer", "_law_row", "_law_item"]
abbrev p__law_rows : List Str := ["_law_items", "_law_many"]
theorem sc__law_rows : FnScope n__law_rows p__law_rows (defScope s__law_rows) := ⟨rfl, rfl, rfl, by decide +kernel, rfl, by decide +kernel, by decide +kernel⟩
def b__law_rows : Sx Dk :=
  (sSeq (sNew 2 (lSeq (aCons (eSeq .tuple aNil) aNil)))
    (sSeq (sFor (iRg1 (aCons (bVar 1) aNil)) (btN 3)
    (sSeq (sNew 4 (lSeq aNil))
    (sSeq (sFrz 2 (sFor (iSeq (eVar 2)) (btN 5)
    (sExt 4 (eL (lLc (iSeq (bVar 0)) (btN 6) xYes (eBin opAdd (bVar 5) (eSeq .tuple (aCons (eVar 6) aNil))) [6])))))
    (sMove 2 4))))
    (sRet (bVar 2))))
def m__law_rows : List Val → Dk → Out Dk Val := runF 5 b__law_rows
theorem ok__law_rows (hP : B.P = P) (hK : B.K = K) (hw : B.w = w) (T : Tx K mg) (hM : TabsB base mg) : FnG P w K mg base CX0 1 T.d__law_rows.f T.d__law_rows.fd p__law_rows (spP B 2 m__law_rows) := by
  exact fg_pure hP hK hw T.d__law_rows.F sc__law_rows b__law_rows rfl (fun cdv A outer s H E c hr =>
    (ds_cons (ds_new c 2 (df_lst (dv_cons (de_tup dv_nil) dv_nil)))
    (ds_cons (ds_for (vs := [3]) c PassesOwn.never (di_range1 (T.nb_range) (da_cons (db_var 1 (pv 1)) da_nil)) (dg_name c.nd 3)
    (ds_cons (ds_new c 4 (df_lst dv_nil))
    (ds_cons (ds_frz 2 (ds_for (vs := [5]) c PassesOwn.never (di_seq c.hK (de_var 2 (pv 2))) (dg_name c.nd 5)
    (ds_one (ds_ext c 4 (pe_bm PySem.F.plainAttrs_list PySem.F.slot_list_extend PySem.F.type_list_extend mt_extend (pv 4) (pa_cons (((df_lc c (own := [("_law_item", 6)]) (di_seqB c.hK (db_var 0 (pv 0))) (blkOk_by (own := [("_law_item", 6)]) (N := n__law_rows) (sc := defScope s__law_rows) (by decide +kernel)) (fun s H C cl fp => (dg_name (c.blk s H _ (compEnvC _ cl C _) fp).nd 6)) (fun s H C cl fp => dts_nil) (fun s H C cl fp => (de_add (c.blk s H _ (compEnvC _ cl C _) fp).hK (db_var 5 (pv 5)) ((de_tup (dv_cons (de_var 6 (pv 6)) dv_nil))).lent)))).de).lent pa_nil))))))
    (ds_one (ds_move c 2 4)))))
    (ds_one (ds_ret (db_var 2 (pv 2)))))))
abbrev n__law_behind : List Str := ["_law_wheel_here", "_law_stand", "_law_act", "_law_loads", "_law_line", "_law_waited", "_law_later", "_law_size"]
abbrev p__law_behind : List Str := ["_law_wheel_here", "_law_stand", "_law_act"]
theorem sc__law_behind : FnScope n__law_behind p__law_behind (defScope s__law_behind) := ⟨rfl, rfl, rfl, by decide +kernel, rfl, by decide +kernel, by decide +kernel⟩
def b__law_behind : Sx Dk :=
  (sSeq (sUnp (btT (btsC (btN 3) (btsC (btN 4) (btsC (btN 5) btsN)))) (eVar 1))
    (sSeq (sIf (tOf (eBin opEq (bVar 2) (eC (.str "turn"))))
    (sSeq (sSet 6 (eBin opAdd (eSeq .tuple (aCons (eC (.int 0)) aNil)) (eSl (bVar 3) oNone (oSome (eUn opNeg (eC (.int 1)))))))
    (sRet (eIf (xAnd (tOf (eBin (opRel fun i j => decide (i < j)) (bVar 5) (eBin opIx (bVar 0) (eC (.int 4))))) (tOf (eFn 2 m__law_fits (aCons (eVar 0) (aCons (eVar 6) aNil))))) (eSeq .tuple (aCons (eSeq .tuple (aCons (eVar 6) (aCons (eVar 4) (aCons (eBin opAdd (bVar 5) (eC (.int 1))) aNil)))) aNil)) (eSeq .tuple aNil))))
    sNil)
    (sSeq (sSet 6 (eBin opAdd (eSeq .tuple (aCons (eBin opAdd (eBin opIx (bVar 3) (eC (.int 0))) (eBin opIx (bVar 4) (eC (.int 0)))) aNil)) (eSl (bVar 3) (oSome (eC (.int 1))) oNone)))
    (sSeq (sIf (xNot (tOf (eFn 2 m__law_fits (aCons (eVar 0) (aCons (eVar 6) aNil)))))
    (sRet (eSeq .tuple aNil))
    sNil)
    (sRet (eCall oTuple (aCons (eL (lLc (iSeq (eBin opIx (bVar 0) (eC (.int 2)))) (btN 7) xYes (eSeq .tuple (aCons (eVar 6) (aCons (eBin opAdd (eSl (bVar 4) (oSome (eC (.int 1))) oNone) (eSeq .tuple (aCons (eVar 7) aNil))) (aCons (eC (.int 0)) aNil)))) [7])) aNil)))))))
def m__law_behind : List Val → Dk → Out Dk Val := runF 5 b__law_behind
theorem ok__law_behind (hP : B.P = P) (hK : B.K = K) (hw : B.w = w) (T : Tx K mg) (hM : TabsB base mg) : FnG P w K mg base CX0 3 T.d__law_behind.f T.d__law_behind.fd p__law_behind (spP B 3 m__law_behind) := by
  have g__law_fits := ok__law_fits (P := P) (w := w) (base := base) hP hK hw T hM
  exact fg_pure hP hK hw T.d__law_behind.F sc__law_behind b__law_behind rfl (fun cdv A outer s H E c hr =>
    (ds_cons (ds_unp (vs := [3, 4, 5]) (de_var 1 (pv 1)) (dg_tup c (dgs_cons (dg_name c.nd 3) (dgs_cons (dg_name c.nd 4) (dgs_cons (dg_name c.nd 5) dgs_nil))) (btsC_len (btsC_len (btsC_len btsN_len _) _) _)))
    (ds_cons (ds_if (dt_cmp (cd_eq c.hK c.u64) (db_var 2 (pv 2)) (de_str).lent)
    (ds_cons (ds_set c 6 (de_add c.hK ((de_tup (dv_cons de_int dv_nil))).lent ((de_sl c.hK (db_var 3 (pv 3)) do_none (do_some ((de_neg (de_int).lent)).lent))).lent))
    (ds_one (ds_ret ((de_if (dt_bool (dw_and (dt_cmp cd_lt (db_var 5 (pv 5)) ((de_ix c.hK (db_var 0 (pv 0)) (de_int).lent)).lent) (dw_and1 (dt_val ((de_call c (g__law_fits) (hr.mono (by decide)) T.d__law_fits.g T.d__law_fits.F.kp (T.d__law_fits.F.binds (ps := p__law_fits) fun _ _ _ _ _ _ us hl => match us, hl with | [_, _], _ => rfl) (dv_cons (de_var 0 (pv 0)) (dv_cons (de_var 6 (pv 6)) dv_nil)))).lent)))) (de_tup (dv_cons (de_tup (dv_cons (de_var 6 (pv 6)) (dv_cons (de_var 4 (pv 4)) (dv_cons (de_add c.hK (db_var 5 (pv 5)) (de_int).lent) dv_nil)))) dv_nil)) (de_tup dv_nil))).lent)))
    ds_nil)
    (ds_cons (ds_set c 6 (de_add c.hK ((de_tup (dv_cons (de_add c.hK ((de_ix c.hK (db_var 3 (pv 3)) (de_int).lent)).lent ((de_ix c.hK (db_var 4 (pv 4)) (de_int).lent)).lent) dv_nil))).lent ((de_sl c.hK (db_var 3 (pv 3)) (do_some (de_int).lent) do_none)).lent))
    (ds_cons (ds_if (dt_not (dt_val ((de_call c (g__law_fits) (hr.mono (by decide)) T.d__law_fits.g T.d__law_fits.F.kp (T.d__law_fits.F.binds (ps := p__law_fits) fun _ _ _ _ _ _ us hl => match us, hl with | [_, _], _ => rfl) (dv_cons (de_var 0 (pv 0)) (dv_cons (de_var 6 (pv 6)) dv_nil)))).lent))
    (ds_one (ds_ret ((de_tup dv_nil)).lent))
    ds_nil)
    (ds_one (ds_ret ((de_typ (op := oTuple) call_tuple_of (by rw [← c.hK]; exact cl_tuple) (by rfl) (T.nb_tuple) boot_tuple (da_cons (((df_lc c (own := [("_law_size", 7)]) (di_seqB c.hK ((de_ix c.hK (db_var 0 (pv 0)) (de_int).lent)).lent) (blkOk_by (own := [("_law_size", 7)]) (N := n__law_behind) (sc := defScope s__law_behind) (by decide +kernel)) (fun s H C cl fp => (dg_name (c.blk s H _ (compEnvC _ cl C _) fp).nd 7)) (fun s H C cl fp => dts_nil) (fun s H C cl fp => (de_tup (dv_cons (de_var 6 (pv 6)) (dv_cons (de_add (c.blk s H _ (compEnvC _ cl C _) fp).hK ((de_sl (c.blk s H _ (compEnvC _ cl C _) fp).hK (db_var 4 (pv 4)) (do_some (de_int).lent) do_none)).lent ((de_tup (dv_cons (de_var 7 (pv 7)) dv_nil))).lent) (dv_cons de_int dv_nil))))))).de).lent da_nil))).lent)))))))
abbrev n__law_rule : List Str := ["_law_deck_here", "_law_wheel_here", "_law_found", "_law_k", "_law_tests", "_law_more", "_law_what", "_law_low", "_law_wide", "_law_ends"]
abbrev p__law_rule : List Str := ["_law_deck_here", "_law_wheel_here"]
theorem sc__law_rule : FnScope n__law_rule p__law_rule (defScope s__law_rule) := ⟨rfl, rfl, rfl, by decide +kernel, rfl, by decide +kernel, by decide +kernel⟩
def b__law_rule : Sx Dk :=
  (sSeq (sNew 2 (lSeq aNil))
    (sSeq (sFor (iRg1 (aCons (eFn 2 m__law_draw (aCons (eVar 0) (aCons (eC (.int 4)) aNil))) aNil)) (btN 3)
    (sSeq (sNew 4 (lSeq aNil))
    (sSeq (sFor (iRg1 (aCons (eFn 2 m__law_draw (aCons (eVar 0) (aCons (eC (.int 3)) aNil))) aNil)) (btN 5)
    (sSeq (sSet 6 (eFn 2 m__law_one (aCons (eVar 0) (aCons (eL (lSeq (aCons (eC (.str "load")) (aCons (eC (.str "head")) (aCons (eC (.str "waited")) (aCons (eC (.str "lean")) (aCons (eC (.str "ahead")) aNil))))))) aNil))))
    (sSeq (sSet 7 (eBin opSub (eFn 2 m__law_draw (aCons (eVar 0) (aCons (eC (.int 5)) aNil))) (eFn 2 m__law_one (aCons (eVar 0) (aCons (eL (lSeq (aCons (eC (.int 0)) (aCons (eC (.int 0)) (aCons (eC (.int 0)) (aCons (eC (.int 2)) (aCons (eC (.int 9)) (aCons (eUn opNeg (eC (.int 40))) (aCons (eC (.int 60)) (aCons (eBin opPow (eC (.int 10)) (eC (.int 30))) aNil)))))))))) aNil)))))
    (sSeq (sSet 8 (eFn 2 m__law_one (aCons (eVar 0) (aCons (eL (lSeq (aCons (eFn 2 m__law_draw (aCons (eVar 0) (aCons (eC (.int 4)) aNil))) (aCons (eFn 2 m__law_draw (aCons (eVar 0) (aCons (eC (.int 4)) aNil))) (aCons (eC (.int 10)) (aCons (eC (.int 130)) (aCons (eBin opMul (eC (.int 2)) (eBin opPow (eC (.int 10)) (eC (.int 30)))) aNil))))))) aNil))))
    (sApp 4 (eSeq .tuple (aCons (eVar 6) (aCons (eVar 7) (aCons (eBin opAdd (bVar 7) (bVar 8)) aNil)))))))))
    (sApp 2 (eSeq .tuple (aCons (eCall oTuple (aCons (bVar 4) aNil)) (aCons (eFn 2 m__law_one (aCons (eVar 0) (aCons (eL (lSeq (aCons (eC (.str "board")) (aCons (eC (.str "turn")) aNil)))) aNil))) aNil)))))))
    (sSeq (sSet 9 (eL (lSeq (aCons (eL (lSeq aNil)) (aCons (eL (lSeq (aCons (eSeq .tuple (aCons (eSeq .tuple aNil) (aCons (eC (.str "board")) aNil))) aNil))) (aCons (eL (lSeq (aCons (eSeq .tuple (aCons (eSeq .tuple aNil) (aCons (eC (.str "board")) aNil))) (aCons (eSeq .tuple (aCons (eSeq .tuple aNil) (aCons (eC (.str "turn")) aNil))) aNil)))) (aCons (eL (lSeq (aCons (eSeq .tuple (aCons (eSeq .tuple aNil) (aCons (eC (.str "turn")) aNil))) (aCons (eSeq .tuple (aCons (eSeq .tuple aNil) (aCons (eC (.str "board")) aNil))) aNil)))) aNil)))))))
    (sRet (eCall oTuple (aCons (eBin opAdd (bVar 2) (eFn 2 m__law_one (aCons (eVar 0) (aCons (eBin opAdd (bVar 9) (eSl (bVar 9) (oSome (eC (.int 2))) oNone)) aNil)))) aNil))))))
def m__law_rule : List Val → Dk → Out Dk Val := runF 8 b__law_rule
theorem ok__law_rule (hP : B.P = P) (hK : B.K = K) (hw : B.w = w) (T : Tx K mg) (hM : TabsB base mg) : FnG P w K mg base CX0 3 T.d__law_rule.f T.d__law_rule.fd p__law_rule (spP B 2 m__law_rule) := by
  have g__law_draw := ok__law_draw (P := P) (w := w) (base := base) hP hK hw T hM
  have g__law_one := ok__law_one (P := P) (w := w) (base := base) hP hK hw T hM
  exact fg_pure hP hK hw T.d__law_rule.F sc__law_rule b__law_rule rfl (fun cdv A outer s H E c hr =>
    (ds_cons (ds_new c 2 (df_lst dv_nil))
    (ds_cons (ds_for (vs := [3]) c PassesOwn.never (di_range1 (T.nb_range) (da_cons ((de_call c (g__law_draw) (hr.mono (by decide)) T.d__law_draw.g T.d__law_draw.F.kp (T.d__law_draw.F.binds (ps := p__law_draw) fun _ _ _ _ _ _ us hl => match us, hl with | [_, _], _ => rfl) (dv_cons (de_var 0 (pv 0)) (dv_cons de_int dv_nil)))).lent da_nil)) (dg_name c.nd 3)
    (ds_cons (ds_new c 4 (df_lst dv_nil))
    (ds_cons (ds_for (vs := [5]) c PassesOwn.never (di_range1 (T.nb_range) (da_cons ((de_call c (g__law_draw) (hr.mono (by decide)) T.d__law_draw.g T.d__law_draw.F.kp (T.d__law_draw.F.binds (ps := p__law_draw) fun _ _ _ _ _ _ us hl => match us, hl with | [_, _], _ => rfl) (dv_cons (de_var 0 (pv 0)) (dv_cons de_int dv_nil)))).lent da_nil)) (dg_name c.nd 5)
    (ds_cons (ds_set c 6 (de_call c (g__law_one) (hr.mono (by decide)) T.d__law_one.g T.d__law_one.F.kp (T.d__law_one.F.binds (ps := p__law_one) fun _ _ _ _ _ _ us hl => match us, hl with | [_, _], _ => rfl) (dv_cons (de_var 0 (pv 0)) (dv_cons ((df_lst (dv_cons de_str (dv_cons de_str (dv_cons de_str (dv_cons de_str (dv_cons de_str dv_nil))))))).de dv_nil))))
    (ds_cons (ds_set c 7 (de_sub ((de_call c (g__law_draw) (hr.mono (by decide)) T.d__law_draw.g T.d__law_draw.F.kp (T.d__law_draw.F.binds (ps := p__law_draw) fun _ _ _ _ _ _ us hl => match us, hl with | [_, _], _ => rfl) (dv_cons (de_var 0 (pv 0)) (dv_cons de_int dv_nil)))).lent ((de_call c (g__law_one) (hr.mono (by decide)) T.d__law_one.g T.d__law_one.F.kp (T.d__law_one.F.binds (ps := p__law_one) fun _ _ _ _ _ _ us hl => match us, hl with | [_, _], _ => rfl) (dv_cons (de_var 0 (pv 0)) (dv_cons ((df_lst (dv_cons de_int (dv_cons de_int (dv_cons de_int (dv_cons de_int (dv_cons de_int (dv_cons (de_neg (de_int).lent) (dv_cons de_int (dv_cons (de_pow (de_int).lent (de_int).lent) dv_nil)))))))))).de dv_nil)))).lent))
    (ds_cons (ds_set c 8 (de_call c (g__law_one) (hr.mono (by decide)) T.d__law_one.g T.d__law_one.F.kp (T.d__law_one.F.binds (ps := p__law_one) fun _ _ _ _ _ _ us hl => match us, hl with | [_, _], _ => rfl) (dv_cons (de_var 0 (pv 0)) (dv_cons ((df_lst (dv_cons (de_call c (g__law_draw) (hr.mono (by decide)) T.d__law_draw.g T.d__law_draw.F.kp (T.d__law_draw.F.binds (ps := p__law_draw) fun _ _ _ _ _ _ us hl => match us, hl with | [_, _], _ => rfl) (dv_cons (de_var 0 (pv 0)) (dv_cons de_int dv_nil))) (dv_cons (de_call c (g__law_draw) (hr.mono (by decide)) T.d__law_draw.g T.d__law_draw.F.kp (T.d__law_draw.F.binds (ps := p__law_draw) fun _ _ _ _ _ _ us hl => match us, hl with | [_, _], _ => rfl) (dv_cons (de_var 0 (pv 0)) (dv_cons de_int dv_nil))) (dv_cons de_int (dv_cons de_int (dv_cons (de_mul c.hK (de_int).lent ((de_pow (de_int).lent (de_int).lent)).lent) dv_nil))))))).de dv_nil))))
    (ds_one (ds_app c 4 (pe_bm PySem.F.plainAttrs_list PySem.F.slot_list_append PySem.F.type_list_append mt_append (pv 4) (pa_cons (de_tup (dv_cons (de_var 6 (pv 6)) (dv_cons (de_var 7 (pv 7)) (dv_cons (de_add c.hK (db_var 7 (pv 7)) (db_var 8 (pv 8))) dv_nil)))) pa_nil))))))))
    (ds_one (ds_app c 2 (pe_bm PySem.F.plainAttrs_list PySem.F.slot_list_append PySem.F.type_list_append mt_append (pv 2) (pa_cons (de_tup (dv_cons (de_typ (op := oTuple) call_tuple_of (by rw [← c.hK]; exact cl_tuple) (by rfl) (T.nb_tuple) boot_tuple (da_cons (db_var 4 (pv 4)) da_nil)) (dv_cons (de_call c (g__law_one) (hr.mono (by decide)) T.d__law_one.g T.d__law_one.F.kp (T.d__law_one.F.binds (ps := p__law_one) fun _ _ _ _ _ _ us hl => match us, hl with | [_, _], _ => rfl) (dv_cons (de_var 0 (pv 0)) (dv_cons ((df_lst (dv_cons de_str (dv_cons de_str dv_nil)))).de dv_nil))) dv_nil))) pa_nil)))))))
    (ds_cons (ds_set c 9 ((df_lst (dv_cons ((df_lst dv_nil)).de (dv_cons ((df_lst (dv_cons (de_tup (dv_cons (de_tup dv_nil) (dv_cons de_str dv_nil))) dv_nil))).de (dv_cons ((df_lst (dv_cons (de_tup (dv_cons (de_tup dv_nil) (dv_cons de_str dv_nil))) (dv_cons (de_tup (dv_cons (de_tup dv_nil) (dv_cons de_str dv_nil))) dv_nil)))).de (dv_cons ((df_lst (dv_cons (de_tup (dv_cons (de_tup dv_nil) (dv_cons de_str dv_nil))) (dv_cons (de_tup (dv_cons (de_tup dv_nil) (dv_cons de_str dv_nil))) dv_nil)))).de dv_nil)))))).de)
    (ds_one (ds_ret ((de_typ (op := oTuple) call_tuple_of (by rw [← c.hK]; exact cl_tuple) (by rfl) (T.nb_tuple) boot_tuple (da_cons ((de_add c.hK (db_var 2 (pv 2)) ((de_call c (g__law_one) (hr.mono (by decide)) T.d__law_one.g T.d__law_one.F.kp (T.d__law_one.F.binds (ps := p__law_one) fun _ _ _ _ _ _ us hl => match us, hl with | [_, _], _ => rfl) (dv_cons (de_var 0 (pv 0)) (dv_cons (de_add c.hK (db_var 9 (pv 9)) ((de_sl c.hK (db_var 9 (pv 9)) (do_some (de_int).lent) do_none)).lent) dv_nil)))).lent)).lent da_nil))).lent))))))
abbrev n__law_deed_of : List Str := ["_law_wheel_here", "_law_rule_here", "_law_stand", "_law_loads", "_law_line", "_law_waited", "_law_numbers", "_law_tests", "_law_act", "_law_wrong", "_law_what", "_law_low", "_law_high"]
abbrev p__law_deed_of : List Str := ["_law_wheel_here", "_law_rule_here", "_law_stand"]
theorem sc__law_deed_of : FnScope n__law_deed_of p__law_deed_of (defScope s__law_deed_of) := ⟨rfl, rfl, rfl, by decide +kernel, rfl, by decide +kernel, by decide +kernel⟩
def b__law_deed_of : Sx Dk :=
  (sSeq (sUnp (btT (btsC (btN 3) (btsC (btN 4) (btsC (btN 5) btsN)))) (eVar 2))
    (sSeq (sNewN 6 (nDisp ["load", "head", "waited", "lean"] (exsOf [(eBin opIx (bVar 3) (eC (.int 0))), (eBin opIx (bVar 4) (eC (.int 0))), (eVar 5), (eFn 2 m__law_lean (aCons (eVar 0) (aCons (eVar 3) aNil)))])))
    (sSeq (sPutS 6 (eC (.str "ahead")) (eFn 2 m__law_lean (aCons (eVar 0) (aCons (eBin opAdd (eSeq .tuple (aCons (eC (.int 0)) aNil)) (eSl (bVar 3) oNone (oSome (eUn opNeg (eC (.int 1)))))) aNil))))
    (sSeq (sFor (iSeq (eVar 1)) (btT (btsC (btN 7) (btsC (btN 8) btsN)))
    (sSeq (sSet 9 (eL (lLc (iSeq (bVar 7)) (btT (btsC (btN 10) (btsC (btN 11) (btsC (btN 12) btsN)))) (xNot (tOf (eChain (opRel fun i j => decide (i ≤ j)) (opRel fun i j => decide (i ≤ j)) (bVar 11) (eBin opDIx (bVar 6) (bVar 10)) (bVar 12)))) (eVar 10) [10, 11, 12])))
    (sIf (xAnd (tOf (eBin opEq (bVar 9) (eL (lSeq aNil)))) (tOf (eBin opNe (eFn 3 m__law_behind (aCons (eVar 0) (aCons (eVar 2) (aCons (eVar 8) aNil)))) (eSeq .tuple aNil))))
    (sRet (bVar 8))
    sNil)))
    (sRet (eC .none))))))
def m__law_deed_of : List Val → Dk → Out Dk Val := runF 10 b__law_deed_of
theorem ok__law_deed_of (hP : B.P = P) (hK : B.K = K) (hw : B.w = w) (T : Tx K mg) (hM : TabsB base mg) : FnG P w K mg base CX0 4 T.d__law_deed_of.f T.d__law_deed_of.fd p__law_deed_of (spP B 3 m__law_deed_of) := by
  have g__law_behind := ok__law_behind (P := P) (w := w) (base := base) hP hK hw T hM
  have g__law_lean := ok__law_lean (P := P) (w := w) (base := base) hP hK hw T hM
  exact fg_pure hP hK hw T.d__law_deed_of.F sc__law_deed_of b__law_deed_of rfl (fun cdv A outer s H E c hr =>
    (ds_cons (ds_unp (vs := [3, 4, 5]) (de_var 2 (pv 2)) (dg_tup c (dgs_cons (dg_name c.nd 3) (dgs_cons (dg_name c.nd 4) (dgs_cons (dg_name c.nd 5) dgs_nil))) (btsC_len (btsC_len (btsC_len btsN_len _) _) _)))
    (ds_cons (ds_newN c 6 (dn_disp ["load", "head", "waited", "lean"] [(eBin opIx (bVar 3) (eC (.int 0))), (eBin opIx (bVar 4) (eC (.int 0))), (eVar 5), (eFn 2 m__law_lean (aCons (eVar 0) (aCons (eVar 3) aNil)))] (pps_cons pe_str (de_ix c.hK (db_var 3 (pv 3)) (de_int).lent) (pps_cons pe_str (de_ix c.hK (db_var 4 (pv 4)) (de_int).lent) (pps_cons pe_str (de_var 5 (pv 5)) (pps_cons pe_str (de_call c (g__law_lean) (hr.mono (by decide)) T.d__law_lean.g T.d__law_lean.F.kp (T.d__law_lean.F.binds (ps := p__law_lean) fun _ _ _ _ _ _ us hl => match us, hl with | [_, _], _ => rfl) (dv_cons (de_var 0 (pv 0)) (dv_cons (de_var 3 (pv 3)) dv_nil))) pps_nil)))) rfl))
    (ds_cons (ds_putS c 6 (pv 6) (de_str).lent (de_call c (g__law_lean) (hr.mono (by decide)) T.d__law_lean.g T.d__law_lean.F.kp (T.d__law_lean.F.binds (ps := p__law_lean) fun _ _ _ _ _ _ us hl => match us, hl with | [_, _], _ => rfl) (dv_cons (de_var 0 (pv 0)) (dv_cons (de_add c.hK ((de_tup (dv_cons de_int dv_nil))).lent ((de_sl c.hK (db_var 3 (pv 3)) do_none (do_some ((de_neg (de_int).lent)).lent))).lent) dv_nil))))
    (ds_cons (ds_for (vs := [7, 8]) c PassesOwn.never (di_seq c.hK (de_var 1 (pv 1))) (dg_tup c (dgs_cons (dg_name c.nd 7) (dgs_cons (dg_name c.nd 8) dgs_nil)) (btsC_len (btsC_len btsN_len _) _))
    (ds_cons (ds_setLc c 9 (own := [("_law_what", 10), ("_law_low", 11), ("_law_high", 12)]) (di_seqB c.hK (db_var 7 (pv 7))) (blkOk_by (own := [("_law_what", 10), ("_law_low", 11), ("_law_high", 12)]) (N := n__law_deed_of) (sc := defScope s__law_deed_of) (by decide +kernel)) (fun s H C cl fp => (dg_tup (c.blk s H _ (compEnvC _ cl C _) fp) (dgs_cons (dg_name (c.blk s H _ (compEnvC _ cl C _) fp).nd 10) (dgs_cons (dg_name (c.blk s H _ (compEnvC _ cl C _) fp).nd 11) (dgs_cons (dg_name (c.blk s H _ (compEnvC _ cl C _) fp).nd 12) dgs_nil))) (btsC_len (btsC_len (btsC_len btsN_len _) _) _))) (fun s H C cl fp => (dts_one (dt_not (dt_chain cd_le cd_le (db_var 11 (pv 11)) ((de_dix (c.blk s H _ (compEnvC _ cl C _) fp) (db_var 6 (pv 6)) (db_var 10 (pv 10)))).lent (db_var 12 (pv 12)))))) (fun s H C cl fp => (de_var 10 (pv 10))))
    (ds_one (ds_if (dt_bool (dw_and (dt_cmp (cd_eq c.hK c.u64) (db_var 9 (pv 9)) (((df_lst dv_nil)).de).lent) (dw_and1 (dt_cmp (cd_ne c.hK c.u64) ((de_call c (g__law_behind) (hr.mono (by decide)) T.d__law_behind.g T.d__law_behind.F.kp (T.d__law_behind.F.binds (ps := p__law_behind) fun _ _ _ _ _ _ us hl => match us, hl with | [_, _, _], _ => rfl) (dv_cons (de_var 0 (pv 0)) (dv_cons (de_var 2 (pv 2)) (dv_cons (de_var 8 (pv 8)) dv_nil))))).lent ((de_tup dv_nil)).lent))))
    (ds_one (ds_ret (db_var 8 (pv 8))))
    ds_nil))))
    (ds_one (ds_ret (de_non).lent)))))))
abbrev n__law_starts : List Str := ["_law_wheel_here", "_law_line"]
abbrev p__law_starts : List Str := ["_law_wheel_here"]
theorem sc__law_starts : FnScope n__law_starts p__law_starts (defScope s__law_starts) := ⟨rfl, rfl, rfl, by decide +kernel, rfl, by decide +kernel, by decide +kernel⟩
def b__law_starts : Sx Dk :=
  (sRet (eL (lLc (iSeq (eFn 2 m__law_rows (aCons (eBin opIx (bVar 0) (eC (.int 2))) (aCons (eBin opIx (bVar 0) (eC (.int 5))) aNil)))) (btN 1) xYes (eSeq .tuple (aCons (eBin opMul (eSeq .tuple (aCons (eC (.int 0)) aNil)) (eCall oLen (aCons (eBin opIx (bVar 0) (eC (.int 0))) aNil))) (aCons (eVar 1) (aCons (eC (.int 0)) aNil)))) [1])))
def m__law_starts : List Val → Dk → Out Dk Val := runF 1 b__law_starts
theorem ok__law_starts (hP : B.P = P) (hK : B.K = K) (hw : B.w = w) (T : Tx K mg) (hM : TabsB base mg) : FnG P w K mg base CX0 2 T.d__law_starts.f T.d__law_starts.fd p__law_starts (spP B 1 m__law_starts) := by
  have g__law_rows := ok__law_rows (P := P) (w := w) (base := base) hP hK hw T hM
  exact fg_pure hP hK hw T.d__law_starts.F sc__law_starts b__law_starts rfl (fun cdv A outer s H E c hr =>
    (ds_one (ds_ret (((df_lc c (own := [("_law_line", 1)]) (di_seqB c.hK ((de_call c (g__law_rows) (hr.mono (by decide)) T.d__law_rows.g T.d__law_rows.F.kp (T.d__law_rows.F.binds (ps := p__law_rows) fun _ _ _ _ _ _ us hl => match us, hl with | [_, _], _ => rfl) (dv_cons (de_ix c.hK (db_var 0 (pv 0)) (de_int).lent) (dv_cons (de_ix c.hK (db_var 0 (pv 0)) (de_int).lent) dv_nil)))).lent) (blkOk_by (own := [("_law_line", 1)]) (N := n__law_starts) (sc := defScope s__law_starts) (by decide +kernel)) (fun s H C cl fp => (dg_name (c.blk s H _ (compEnvC _ cl C _) fp).nd 1)) (fun s H C cl fp => dts_nil) (fun s H C cl fp => (de_tup (dv_cons (de_mul (c.blk s H _ (compEnvC _ cl C _) fp).hK ((de_tup (dv_cons de_int dv_nil))).lent ((de_fun (op := oLen) call_len (by rw [← (c.blk s H _ (compEnvC _ cl C _) fp).hK]; exact cl_len) (by rfl) (T.nb_len) boot_len (da_cons ((de_ix (c.blk s H _ (compEnvC _ cl C _) fp).hK (db_var 0 (pv 0)) (de_int).lent)).lent da_nil))).lent) (dv_cons (de_var 1 (pv 1)) (dv_cons de_int dv_nil))))))).de).lent)))
abbrev n__law_run : List Str := ["_law_wheel_here", "_law_rule_here", "_law_queue", "_law_stand", "_law_seen", "_law_found", "_law_act", "_law_every", "_law_one_here"]
abbrev p__law_run : List Str := ["_law_wheel_here", "_law_rule_here", "_law_queue"]
theorem sc__law_run : FnScope n__law_run p__law_run (defScope s__law_run) := ⟨rfl, rfl, rfl, by decide +kernel, rfl, by decide +kernel, by decide +kernel⟩
def b__law_run : Sx Dk :=
  (sSeq (sPar [3, 4, 5] (mVal (eSeq .tuple (aCons (eBin opMul (eSeq .tuple (aCons (eC (.int 0)) aNil)) (eCall oLen (aCons (eBin opIx (bVar 0) (eC (.int 0))) aNil))) (aCons (eSl (bVar 2) oNone (oSome (eBin opIx (bVar 0) (eC (.int 5))))) (aCons (eC (.int 0)) aNil)))) (mVal (eBin opIx (bVar 0) (eC (.int 5))) (mNew (nL (lSeq aNil)) mNil))))
    (sWh FU (tOf (eC (.bool true)))
    (sSeq (sSet 6 (eFn 3 m__law_deed_of (aCons (eVar 0) (aCons (eVar 1) (aCons (eVar 3) aNil)))))
    (sSeq (sApp 5 (eSeq .tuple (aCons (eVar 3) (aCons (eVar 6) aNil))))
    (sSeq (sIf (xOr (tOf (eBin opIs (bVar 6) (eC .none))) (xAnd (tOf (eBin opEq (bVar 6) (eC (.str "board")))) (tOf (eBin opEq (bVar 4) (eCall oLen (aCons (bVar 2) aNil))))))
    (sRet (bVar 5))
    sNil)
    (sSeq (sSet 7 (eFn 3 m__law_behind (aCons (eVar 0) (aCons (eVar 3) (aCons (eVar 6) aNil)))))
    (sIf (tOf (eBin opEq (bVar 6) (eC (.str "turn"))))
    (sSet 3 (eBin opIx (bVar 7) (eC (.int 0))))
    (sSeq (sSet 3 (eBin opIx (eL (lLc (iSeq (bVar 7)) (btN 8) (tOf (eBin opEq (eBin opIx (eBin opIx (bVar 8) (eC (.int 1))) (eUn opNeg (eC (.int 1)))) (eBin opIx (bVar 2) (bVar 4)))) (eVar 8) [8])) (eC (.int 0))))
    (sSet 4 (eBin opAdd (bVar 4) (eC (.int 1))))))))))))
def m__law_run : List Val → Dk → Out Dk Val := runF 6 b__law_run
theorem ok__law_run (hP : B.P = P) (hK : B.K = K) (hw : B.w = w) (T : Tx K mg) (hM : TabsB base mg) : FnG P w K mg base CX0 5 T.d__law_run.f T.d__law_run.fd p__law_run (spP B 3 m__law_run) := by
  have g__law_behind := ok__law_behind (P := P) (w := w) (base := base) hP hK hw T hM
  have g__law_deed_of := ok__law_deed_of (P := P) (w := w) (base := base) hP hK hw T hM
  exact fg_pure hP hK hw T.d__law_run.F sc__law_run b__law_run rfl (fun cdv A outer s H E c hr =>
    (ds_cons (ds_parT c [3, 4, 5] (dm_val (de_tup (dv_cons (de_mul c.hK ((de_tup (dv_cons de_int dv_nil))).lent ((de_fun (op := oLen) call_len (by rw [← c.hK]; exact cl_len) (by rfl) (T.nb_len) boot_len (da_cons ((de_ix c.hK (db_var 0 (pv 0)) (de_int).lent)).lent da_nil))).lent) (dv_cons (de_sl c.hK (db_var 2 (pv 2)) do_none (do_some ((de_ix c.hK (db_var 0 (pv 0)) (de_int).lent)).lent)) (dv_cons de_int dv_nil)))) (dm_val (de_ix c.hK (db_var 0 (pv 0)) (de_int).lent) (dm_new ((df_lst dv_nil)).dn dm_nil))) (pgs_cons (pg_name (i := 3) c.nd rfl (by first | exact .inl rfl | exact .inr rfl)) (pgs_cons (pg_name (i := 4) c.nd rfl (by first | exact .inl rfl | exact .inr rfl)) (pgs_cons (pg_name (i := 5) c.nd rfl (by first | exact .inl rfl | exact .inr rfl)) pgs_nil))))
    (ds_one (ds_while FU PassesOwn.never (dt_val (de_bl).lent)
    (ds_cons (ds_set c 6 (de_call c (g__law_deed_of) (hr.mono (by decide)) T.d__law_deed_of.g T.d__law_deed_of.F.kp (T.d__law_deed_of.F.binds (ps := p__law_deed_of) fun _ _ _ _ _ _ us hl => match us, hl with | [_, _, _], _ => rfl) (dv_cons (de_var 0 (pv 0)) (dv_cons (de_var 1 (pv 1)) (dv_cons (de_var 3 (pv 3)) dv_nil)))))
    (ds_cons (ds_app c 5 (pe_bm PySem.F.plainAttrs_list PySem.F.slot_list_append PySem.F.type_list_append mt_append (pv 5) (pa_cons (de_tup (dv_cons (de_var 3 (pv 3)) (dv_cons (de_var 6 (pv 6)) dv_nil))) pa_nil)))
    (ds_cons (ds_if (dt_bool (dw_or (dt_cmp cd_is (db_var 6 (pv 6)) (de_non).lent) (dw_or1 (dt_bool (dw_and (dt_cmp (cd_eq c.hK c.u64) (db_var 6 (pv 6)) (de_str).lent) (dw_and1 (dt_cmp (cd_eq c.hK c.u64) (db_var 4 (pv 4)) ((de_fun (op := oLen) call_len (by rw [← c.hK]; exact cl_len) (by rfl) (T.nb_len) boot_len (da_cons (db_var 2 (pv 2)) da_nil))).lent)))))))
    (ds_one (ds_ret (db_var 5 (pv 5))))
    ds_nil)
    (ds_cons (ds_set c 7 (de_call c (g__law_behind) (hr.mono (by decide)) T.d__law_behind.g T.d__law_behind.F.kp (T.d__law_behind.F.binds (ps := p__law_behind) fun _ _ _ _ _ _ us hl => match us, hl with | [_, _, _], _ => rfl) (dv_cons (de_var 0 (pv 0)) (dv_cons (de_var 3 (pv 3)) (dv_cons (de_var 6 (pv 6)) dv_nil)))))
    (ds_one (ds_if (dt_cmp (cd_eq c.hK c.u64) (db_var 6 (pv 6)) (de_str).lent)
    (ds_one (ds_set c 3 (de_ix c.hK (db_var 7 (pv 7)) (de_int).lent)))
    (ds_cons (ds_set c 3 (de_ix c.hK (((df_lc c (own := [("_law_one_here", 8)]) (di_seqB c.hK (db_var 7 (pv 7))) (blkOk_by (own := [("_law_one_here", 8)]) (N := n__law_run) (sc := defScope s__law_run) (by decide +kernel)) (fun s H C cl fp => (dg_name (c.blk s H _ (compEnvC _ cl C _) fp).nd 8)) (fun s H C cl fp => (dts_one (dt_cmp (cd_eq (c.blk s H _ (compEnvC _ cl C _) fp).hK (c.blk s H _ (compEnvC _ cl C _) fp).u64) ((de_ix (c.blk s H _ (compEnvC _ cl C _) fp).hK ((de_ix (c.blk s H _ (compEnvC _ cl C _) fp).hK (db_var 8 (pv 8)) (de_int).lent)).lent ((de_neg (de_int).lent)).lent)).lent ((de_ix (c.blk s H _ (compEnvC _ cl C _) fp).hK (db_var 2 (pv 2)) (db_var 4 (pv 4)))).lent))) (fun s H C cl fp => (de_var 8 (pv 8))))).de).lent (de_int).lent))
    (ds_one (ds_set c 4 (de_add c.hK (db_var 4 (pv 4)) (de_int).lent))))))))))))))
abbrev n__law_first : List Str := ["_law_wheel_here", "_law_rules", "_law_is_sought", "_law_fresh", "_law_known", "_law_count_here", "_law_later", "_law_stand", "_law_acts", "_law_rule_here"]
abbrev p__law_first : List Str := ["_law_wheel_here", "_law_rules", "_law_is_sought"]
theorem sc__law_first : FnScope n__law_first p__law_first (defScope s__law_first) := ⟨rfl, rfl, rfl, by decide +kernel, rfl, by decide +kernel, by decide +kernel⟩
def b__law_first : Sx Dk :=
  (sSeq (sPar [3, 4, 5] (mVal (eFn 1 m__law_starts (aCons (eVar 0) aNil)) (mNew nD (mVal (eBin opIx (bVar 0) (eC (.int 5))) mNil))))
    (sSeq (sWh FU (tOf (eBin opNe (bVar 3) (eL (lSeq aNil))))
    (sSeq (sNew 6 (lSeq aNil))
    (sSeq (sFor (iSeq (eVar 3)) (btN 7)
    (sWh FU (tOf (eBin opNotInN (bVar 7) (bVar 4)))
    (sSeq (sPutN 4 (eVar 7) (eC (.bool true)))
    (sSeq (sSet 8 (eL (lLc (iSeq (bVar 1)) (btN 9) xYes (eFn 3 m__law_deed_of (aCons (eVar 0) (aCons (eVar 9) (aCons (eVar 7) aNil)))) [9])))
    (sSeq (sIf (tOf (eCallF lamT 2 (aCons (eVar 8) aNil)))
    (sRet (bVar 5))
    sNil)
    (sIf (tOf (eBin opEq (bVar 8) (eBin opMul (eL (lSeq (aCons (eC (.str "turn")) aNil))) (eCall oLen (aCons (bVar 1) aNil)))))
    (sSet 7 (eBin opIx (eFn 3 m__law_behind (aCons (eVar 0) (aCons (eVar 7) (aCons (eC (.str "turn")) aNil)))) (eC (.int 0))))
    (sIf (tOf (eBin opEq (bVar 8) (eBin opMul (eL (lSeq (aCons (eC (.str "board")) aNil))) (eCall oLen (aCons (bVar 1) aNil)))))
    (sExtT 6 (eFn 3 m__law_behind (aCons (eVar 0) (aCons (eVar 7) (aCons (eC (.str "board")) aNil)))))
    sNil)))))))
    (sFrz 6 (sPar [3, 5] (mVal (eVar 6) (mVal (eBin opAdd (bVar 5) (eC (.int 1))) mNil)))))))
    (sRet (eC .none))))
def m__law_first : List Val → Dk → Out Dk Val := runF 7 b__law_first
theorem ok__law_first (hP : B.P = P) (hK : B.K = K) (hw : B.w = w) (T : Tx K mg) (hM : TabsB base mg) : FnG P w K mg base CX0 5 T.d__law_first.f T.d__law_first.fd p__law_first (spP B 3 m__law_first) := by
  have g__law_behind := ok__law_behind (P := P) (w := w) (base := base) hP hK hw T hM
  have g__law_deed_of := ok__law_deed_of (P := P) (w := w) (base := base) hP hK hw T hM
  have g__law_starts := ok__law_starts (P := P) (w := w) (base := base) hP hK hw T hM
  have g_lams := ok_lams (P := P) (w := w) (base := base) hP hK hw T
  exact fg_pure hP hK hw T.d__law_first.F sc__law_first b__law_first rfl (fun cdv A outer s H E c hr =>
    (ds_cons (ds_par3 c (dm_val (de_call c (g__law_starts) (hr.mono (by decide)) T.d__law_starts.g T.d__law_starts.F.kp (T.d__law_starts.F.binds (ps := p__law_starts) fun _ _ _ _ _ _ us hl => match us, hl with | [_], _ => rfl) (dv_cons (de_var 0 (pv 0)) dv_nil)) (dm_new dn_dict (dm_val (de_ix c.hK (db_var 0 (pv 0)) (de_int).lent) dm_nil))))
    (ds_cons (ds_while FU PassesOwn.never (dt_cmp (cd_ne c.hK c.u64) (db_var 3 (pv 3)) (((df_lst dv_nil)).de).lent)
    (ds_cons (ds_new c 6 (df_lst dv_nil))
    (ds_cons (ds_for (vs := [7]) c PassesOwn.never (di_seq c.hK (de_var 3 (pv 3))) (dg_name c.nd 7)
    (ds_one (ds_while FU PassesOwn.never (dt_cmp (cd_notInN c) (db_var 7 (pv 7)) (db_var 4 (pv 4)))
    (ds_cons (ds_putN c 4 (pv 4) (de_var 7 (pv 7)) de_bl)
    (ds_cons (ds_setLc c 8 (own := [("_law_rule_here", 9)]) (di_seqB c.hK (db_var 1 (pv 1))) (blkOk_by (own := [("_law_rule_here", 9)]) (N := n__law_first) (sc := defScope s__law_first) (by decide +kernel)) (fun s H C cl fp => (dg_name (c.blk s H _ (compEnvC _ cl C _) fp).nd 9)) (fun s H C cl fp => dts_nil) (fun s H C cl fp => (de_call (c.blk s H _ (compEnvC _ cl C _) fp) (g__law_deed_of) (hr.mono (by decide)) T.d__law_deed_of.g T.d__law_deed_of.F.kp (T.d__law_deed_of.F.binds (ps := p__law_deed_of) fun _ _ _ _ _ _ us hl => match us, hl with | [_, _, _], _ => rfl) (dv_cons (de_var 0 (pv 0)) (dv_cons (de_var 9 (pv 9)) (dv_cons (de_var 7 (pv 7)) dv_nil))))))
    (ds_cons (ds_if (dt_val ((de_callF c g_lams (hr.mono (by decide)) (pv 2) (dv_cons (de_var 8 (pv 8)) dv_nil))).lent)
    (ds_one (ds_ret (db_var 5 (pv 5))))
    ds_nil)
    (ds_one (ds_if (dt_cmp (cd_eq c.hK c.u64) (db_var 8 (pv 8)) ((de_mul c.hK (((df_lst (dv_cons de_str dv_nil))).de).lent ((de_fun (op := oLen) call_len (by rw [← c.hK]; exact cl_len) (by rfl) (T.nb_len) boot_len (da_cons (db_var 1 (pv 1)) da_nil))).lent)).lent)
    (ds_one (ds_set c 7 (de_ix c.hK ((de_call c (g__law_behind) (hr.mono (by decide)) T.d__law_behind.g T.d__law_behind.F.kp (T.d__law_behind.F.binds (ps := p__law_behind) fun _ _ _ _ _ _ us hl => match us, hl with | [_, _, _], _ => rfl) (dv_cons (de_var 0 (pv 0)) (dv_cons (de_var 7 (pv 7)) (dv_cons de_str dv_nil))))).lent (de_int).lent)))
    (ds_one (ds_if (dt_cmp (cd_eq c.hK c.u64) (db_var 8 (pv 8)) ((de_mul c.hK (((df_lst (dv_cons de_str dv_nil))).de).lent ((de_fun (op := oLen) call_len (by rw [← c.hK]; exact cl_len) (by rfl) (T.nb_len) boot_len (da_cons (db_var 1 (pv 1)) da_nil))).lent)).lent)
    (ds_one (ds_extT c 6 (pe_bm PySem.F.plainAttrs_list PySem.F.slot_list_extend PySem.F.type_list_extend mt_extT (pv 6) (pa_cons ((de_call c (g__law_behind) (hr.mono (by decide)) T.d__law_behind.g T.d__law_behind.F.kp (T.d__law_behind.F.binds (ps := p__law_behind) fun _ _ _ _ _ _ us hl => match us, hl with | [_, _, _], _ => rfl) (dv_cons (de_var 0 (pv 0)) (dv_cons (de_var 7 (pv 7)) (dv_cons de_str dv_nil))))).lent pa_nil))))
    ds_nil))))))))))
    (ds_one (ds_frz 6 (ds_par2 c (dm_val (de_var 6 (pv 6)) (dm_val (de_add c.hK (db_var 5 (pv 5)) (de_int).lent) dm_nil))))))))
    (ds_one (ds_ret (de_non).lent)))))
abbrev n__law_like : List Str := ["_law_deck_here", "_law_wheel_here", "_law_rule_here", "_law_spot", "_law_sort"]
abbrev p__law_like : List Str := ["_law_deck_here", "_law_wheel_here", "_law_rule_here"]
theorem sc__law_like : FnScope n__law_like p__law_like (defScope s__law_like) := ⟨rfl, rfl, rfl, by decide +kernel, rfl, by decide +kernel, by decide +kernel⟩
def b__law_like : Sx Dk :=
  (sSeq (sPar [3, 4] (mVal (eFn 2 m__law_draw (aCons (eVar 0) (aCons (eBin opAdd (eCall oLen (aCons (bVar 2) aNil)) (eC (.int 1))) aNil))) (mVal (eFn 2 m__law_draw (aCons (eVar 0) (aCons (eC (.int 4)) aNil))) mNil)))
    (sSeq (sIf (tOf (eBin opEq (bVar 4) (eC (.int 0))))
    (sRet (eBin opAdd (eSl (bVar 2) oNone (oSome (bVar 3))) (eSl (bVar 2) (oSome (eBin opAdd (bVar 3) (eC (.int 1)))) oNone)))
    sNil)
    (sSeq (sIf (tOf (eBin opEq (bVar 4) (eC (.int 1))))
    (sRet (eBin opAdd (eBin opAdd (eSl (bVar 2) oNone (oSome (bVar 3))) (eSl (eFn 2 m__law_rule (aCons (eVar 0) (aCons (eVar 1) aNil))) oNone (oSome (eC (.int 1))))) (eSl (bVar 2) (oSome (bVar 3)) oNone)))
    sNil)
    (sSeq (sIf (tOf (eBin opEq (bVar 4) (eC (.int 2))))
    (sRet (eUn opRev (bVar 2)))
    sNil)
    (sRet (eFn 2 m__law_rule (aCons (eVar 0) (aCons (eVar 1) aNil))))))))
def m__law_like : List Val → Dk → Out Dk Val := runF 2 b__law_like
theorem ok__law_like (hP : B.P = P) (hK : B.K = K) (hw : B.w = w) (T : Tx K mg) (hM : TabsB base mg) : FnG P w K mg base CX0 4 T.d__law_like.f T.d__law_like.fd p__law_like (spP B 3 m__law_like) := by
  have g__law_draw := ok__law_draw (P := P) (w := w) (base := base) hP hK hw T hM
  have g__law_rule := ok__law_rule (P := P) (w := w) (base := base) hP hK hw T hM
  exact fg_pure hP hK hw T.d__law_like.F sc__law_like b__law_like rfl (fun cdv A outer s H E c hr =>
    (ds_cons (ds_par2 c (dm_val (de_call c (g__law_draw) (hr.mono (by decide)) T.d__law_draw.g T.d__law_draw.F.kp (T.d__law_draw.F.binds (ps := p__law_draw) fun _ _ _ _ _ _ us hl => match us, hl with | [_, _], _ => rfl) (dv_cons (de_var 0 (pv 0)) (dv_cons (de_add c.hK ((de_fun (op := oLen) call_len (by rw [← c.hK]; exact cl_len) (by rfl) (T.nb_len) boot_len (da_cons (db_var 2 (pv 2)) da_nil))).lent (de_int).lent) dv_nil))) (dm_val (de_call c (g__law_draw) (hr.mono (by decide)) T.d__law_draw.g T.d__law_draw.F.kp (T.d__law_draw.F.binds (ps := p__law_draw) fun _ _ _ _ _ _ us hl => match us, hl with | [_, _], _ => rfl) (dv_cons (de_var 0 (pv 0)) (dv_cons de_int dv_nil))) dm_nil)))
    (ds_cons (ds_if (dt_cmp (cd_eq c.hK c.u64) (db_var 4 (pv 4)) (de_int).lent)
    (ds_one (ds_ret ((de_add c.hK ((de_sl c.hK (db_var 2 (pv 2)) do_none (do_some (db_var 3 (pv 3))))).lent ((de_sl c.hK (db_var 2 (pv 2)) (do_some ((de_add c.hK (db_var 3 (pv 3)) (de_int).lent)).lent) do_none)).lent)).lent))
    ds_nil)
    (ds_cons (ds_if (dt_cmp (cd_eq c.hK c.u64) (db_var 4 (pv 4)) (de_int).lent)
    (ds_one (ds_ret ((de_add c.hK ((de_add c.hK ((de_sl c.hK (db_var 2 (pv 2)) do_none (do_some (db_var 3 (pv 3))))).lent ((de_sl c.hK ((de_call c (g__law_rule) (hr.mono (by decide)) T.d__law_rule.g T.d__law_rule.F.kp (T.d__law_rule.F.binds (ps := p__law_rule) fun _ _ _ _ _ _ us hl => match us, hl with | [_, _], _ => rfl) (dv_cons (de_var 0 (pv 0)) (dv_cons (de_var 1 (pv 1)) dv_nil)))).lent do_none (do_some (de_int).lent))).lent)).lent ((de_sl c.hK (db_var 2 (pv 2)) (do_some (db_var 3 (pv 3))) do_none)).lent)).lent))
    ds_nil)
    (ds_cons (ds_if (dt_cmp (cd_eq c.hK c.u64) (db_var 4 (pv 4)) (de_int).lent)
    (ds_one (ds_ret ((de_rev c.hK (db_var 2 (pv 2)))).lent))
    ds_nil)
    (ds_one (ds_ret ((de_call c (g__law_rule) (hr.mono (by decide)) T.d__law_rule.g T.d__law_rule.F.kp (T.d__law_rule.F.binds (ps := p__law_rule) fun _ _ _ _ _ _ us hl => match us, hl with | [_, _], _ => rfl) (dv_cons (de_var 0 (pv 0)) (dv_cons (de_var 1 (pv 1)) dv_nil)))).lent)))))))
abbrev n__law_do_part : List Str := ["_law_wheel_here", "_law_rule_here", "_law_other", "_law_queue", "_law_one_here", "_law_two", "_law_here", "_law_there"]
abbrev p__law_do_part : List Str := ["_law_wheel_here", "_law_rule_here", "_law_other", "_law_queue"]
theorem sc__law_do_part : FnScope n__law_do_part p__law_do_part (defScope s__law_do_part) := ⟨rfl, rfl, rfl, by decide +kernel, rfl, by decide +kernel, by decide +kernel⟩
def b__law_do_part : Sx Dk :=
  (sSeq (sPar [4, 5] (mVal (eFn 3 m__law_run (aCons (eVar 0) (aCons (eVar 1) (aCons (eVar 3) aNil)))) (mVal (eFn 3 m__law_run (aCons (eVar 0) (aCons (eVar 2) (aCons (eVar 3) aNil)))) mNil)))
    (sSeq (sFor (iZip (aCons (eVar 4) (aCons (eVar 5) aNil))) (btT (btsC (btN 6) (btsC (btN 7) btsN)))
    (sIf (tOf (eBin opNe (bVar 6) (bVar 7)))
    (sRet (eBin opEq (eBin opIx (bVar 6) (eC (.int 0))) (eBin opIx (bVar 7) (eC (.int 0)))))
    sNil))
    (sRet (eC (.bool false)))))
def m__law_do_part : List Val → Dk → Out Dk Val := runF 4 b__law_do_part
theorem ok__law_do_part (hP : B.P = P) (hK : B.K = K) (hw : B.w = w) (T : Tx K mg) (hM : TabsB base mg) : FnG P w K mg base CX0 6 T.d__law_do_part.f T.d__law_do_part.fd p__law_do_part (spP B 4 m__law_do_part) := by
  have g__law_run := ok__law_run (P := P) (w := w) (base := base) hP hK hw T hM
  exact fg_pure hP hK hw T.d__law_do_part.F sc__law_do_part b__law_do_part rfl (fun cdv A outer s H E c hr =>
    (ds_cons (ds_par2 c (dm_val (de_call c (g__law_run) (hr.mono (by decide)) T.d__law_run.g T.d__law_run.F.kp (T.d__law_run.F.binds (ps := p__law_run) fun _ _ _ _ _ _ us hl => match us, hl with | [_, _, _], _ => rfl) (dv_cons (de_var 0 (pv 0)) (dv_cons (de_var 1 (pv 1)) (dv_cons (de_var 3 (pv 3)) dv_nil)))) (dm_val (de_call c (g__law_run) (hr.mono (by decide)) T.d__law_run.g T.d__law_run.F.kp (T.d__law_run.F.binds (ps := p__law_run) fun _ _ _ _ _ _ us hl => match us, hl with | [_, _, _], _ => rfl) (dv_cons (de_var 0 (pv 0)) (dv_cons (de_var 2 (pv 2)) (dv_cons (de_var 3 (pv 3)) dv_nil)))) dm_nil)))
    (ds_cons (ds_for (vs := [6, 7]) c PassesOwn.never (di_zipV c.hK (T.nb_zip) (dv_cons (de_var 4 (pv 4)) (dv_cons (de_var 5 (pv 5)) dv_nil))) (dg_tup c (dgs_cons (dg_name c.nd 6) (dgs_cons (dg_name c.nd 7) dgs_nil)) (btsC_len (btsC_len btsN_len _) _))
    (ds_one (ds_if (dt_cmp (cd_ne c.hK c.u64) (db_var 6 (pv 6)) (db_var 7 (pv 7)))
    (ds_one (ds_ret ((de_cmp (cd_eq c.hK c.u64) ((de_ix c.hK (db_var 6 (pv 6)) (de_int).lent)).lent ((de_ix c.hK (db_var 7 (pv 7)) (de_int).lent)).lent)).lent))
    ds_nil)))
    (ds_one (ds_ret (de_bl).lent)))))
abbrev n__law_deck : List Str := ["_law_script"]
theorem sc__law_deck : FnScope n__law_deck n__law_deck (defScope s__law_deck) := ⟨rfl, rfl, rfl, by decide +kernel, rfl, by decide +kernel, by decide +kernel⟩
theorem ok__law_deck (hP : B.P = P) (hK : B.K = K) (hw : B.w = w) (T : Tx K mg) : FnG P w K mg base CX0 1 T.d__law_deck.f T.d__law_deck.fd n__law_deck (spDeck K) := by
  refine fg_hand hP hK hw T.d__law_deck.F sc__law_deck (fun vs H Q E h => ?_) (fun cdv A outer s H vs Q E c hr h => ?_)
  · obtain ⟨a, ns, rfl, _⟩ := h; rfl
  · obtain ⟨a, ns, rfl, hS, hl, q⟩ := h
    refine ⟨_, pss_one (ps_ret (pe_lst (pa_cons (pe_callTy call_list_of (by rfl) T.nb_list boot_list (pa_cons (pe_slice sl_list (pv 0) po_none (po_some pe_int)) pa_nil)) (pa_cons pe_int (pa_cons pe_int (pa_cons pe_int pa_nil)))))), ?_⟩
    exact deck_read hS hl q rfl
abbrev n_law : List Str := ["_law_script", "_law_deck_here", "_law_turn_more", "_law_wheel_here", "_law_again", "_law_rule_here", "_law_other", "_law_due", "_law_one_here", "_law_two", "_law_queue"]
abbrev p_law : List Str := ["_law_script"]
theorem sc_law : FnScope n_law p_law (defScope s_law) := ⟨rfl, rfl, rfl, by decide +kernel, rfl, by decide +kernel, by decide +kernel⟩
def b_law : Sx Dk :=
  (sSeq (sFor (iRg1 (aCons (eC (.int 5)) aNil)) (btN 2)
    (sSeq (sSet 3 (eFn 2 m__law_wheel (aCons (eVar 1) (aCons (eC (.int 500)) aNil))))
    (sFor (iRg1 (aCons (eC (.int 3)) aNil)) (btN 4)
    (sSeq (sSet 5 (eFn 2 m__law_rule (aCons (eVar 1) (aCons (eVar 3) aNil))))
    (sSeq (sSet 6 (eFn 3 m__law_like (aCons (eVar 1) (aCons (eVar 3) (aCons (eVar 5) aNil)))))
    (sSeq (sSet 7 (eFn 3 m__law_first (aCons (eVar 3) (aCons (eL (lSeq (aCons (eVar 5) (aCons (eVar 6) aNil)))) (aCons (eLam 1) aNil)))))
    (sSeq (sFor (iSeq (eL (lSeq (aCons (eSeq .tuple (aCons (eVar 5) (aCons (eVar 6) aNil))) (aCons (eSeq .tuple (aCons (eVar 6) (aCons (eVar 5) aNil))) aNil))))) (btT (btsC (btN 8) (btsC (btN 9) btsN)))
    (sSeq (sSet 10 (eFn 3 m_parted (aCons (eVar 3) (aCons (eVar 8) (aCons (eVar 9) aNil)))))
    (sSeq (sIf (tOf (eBin opNe (eBin opIs (bVar 10) (eC .none)) (eBin opIs (bVar 7) (eC .none))))
    (sRet (eC (.bool false)))
    sNil)
    (sSeq (sIf (xAnd (tOf (eBin opIsNot (bVar 10) (eC .none))) (tOf (eBin opNe (eCall oLen (aCons (bVar 10) aNil)) (bVar 7))))
    (sRet (eC (.bool false)))
    sNil)
    (sSeq (sIf (xAnd (tOf (eBin opIsNot (bVar 10) (eC .none))) (xNot (tOf (eFn 4 m__law_do_part (aCons (eVar 3) (aCons (eVar 8) (aCons (eVar 9) (aCons (eVar 10) aNil))))))))
    (sRet (eC (.bool false)))
    sNil)
    (sIf (tOf (eBin opNe (eCall oRepr (aCons (eFn 3 m_parted (aCons (eVar 3) (aCons (eVar 8) (aCons (eVar 9) aNil)))) aNil)) (eCall oRepr (aCons (bVar 10) aNil))))
    (sRet (eC (.bool false)))
    sNil))))))
    (sIf (tOf (eBin opIsNot (eFn 3 m_parted (aCons (eVar 3) (aCons (eVar 5) (aCons (eVar 5) aNil)))) (eC .none)))
    (sRet (eC (.bool false)))
    sNil))))))))
    (sRet (eC (.bool true))))
theorem ok_law (hP : B.P = P) (hK : B.K = K) (hw : B.w = w) (T : Tx K mg) (hM : TabsB base mg) (ht : LawTrue 9 b_law) : FnG P w K mg base CX0 8 T.d_law.f T.d_law.fd p_law (spLaw K) := by
  have g__law_do_part := ok__law_do_part (P := P) (w := w) (base := base) hP hK hw T hM
  have g__law_first := ok__law_first (P := P) (w := w) (base := base) hP hK hw T hM
  have g__law_like := ok__law_like (P := P) (w := w) (base := base) hP hK hw T hM
  have g__law_rule := ok__law_rule (P := P) (w := w) (base := base) hP hK hw T hM
  have g__law_wheel := ok__law_wheel (P := P) (w := w) (base := base) hP hK hw T hM
  have g_parted := ok_parted (P := P) (w := w) (base := base) hP hK hw T hM
  have g_deck := ok__law_deck (P := P) (w := w) (base := base) hP hK hw T
  refine fg_handM hP hK hw T.d_law.F T.k_law sc_law (fun vs H Q E h => ?_) (fun cdv A outer s H vs Q E mk c hr h => ?_)
  · obtain ⟨a, ns, rfl, _⟩ := h; rfl
  · obtain ⟨a, ns, rfl, hS, hl, k⟩ := h
    have b := T.d__law_deck.F.binds (ps := n__law_deck) fun _ _ _ _ _ _ us hl => match us, hl with | [_], _ => rfl
    have r : DSs (cxP P w K mg base n_law "law" s_law T.d_law.f cdv A outer s H E) B E00 (defBody s_law).tail b_law :=
    (ds_cons (ds_for (vs := [2]) c PassesOwn.never (di_range1 (T.nb_range) (da_cons (de_int).lent da_nil)) (dg_name c.nd 2)
    (ds_cons (ds_set c 3 (de_call c (g__law_wheel) (hr.mono (by decide)) T.d__law_wheel.g T.d__law_wheel.F.kp (T.d__law_wheel.F.binds (ps := p__law_wheel) fun _ _ _ _ _ _ us hl => match us, hl with | [_, _], _ => rfl) (dv_cons (de_var 1 (pv 1)) (dv_cons de_int dv_nil))))
    (ds_one (ds_for (vs := [4]) c PassesOwn.never (di_range1 (T.nb_range) (da_cons (de_int).lent da_nil)) (dg_name c.nd 4)
    (ds_cons (ds_set c 5 (de_call c (g__law_rule) (hr.mono (by decide)) T.d__law_rule.g T.d__law_rule.F.kp (T.d__law_rule.F.binds (ps := p__law_rule) fun _ _ _ _ _ _ us hl => match us, hl with | [_, _], _ => rfl) (dv_cons (de_var 1 (pv 1)) (dv_cons (de_var 3 (pv 3)) dv_nil))))
    (ds_cons (ds_set c 6 (de_call c (g__law_like) (hr.mono (by decide)) T.d__law_like.g T.d__law_like.F.kp (T.d__law_like.F.binds (ps := p__law_like) fun _ _ _ _ _ _ us hl => match us, hl with | [_, _, _], _ => rfl) (dv_cons (de_var 1 (pv 1)) (dv_cons (de_var 3 (pv 3)) (dv_cons (de_var 5 (pv 5)) dv_nil)))))
    (ds_cons (ds_set c 7 (de_call c (g__law_first) (hr.mono (by decide)) T.d__law_first.g T.d__law_first.F.kp (T.d__law_first.F.binds (ps := p__law_first) fun _ _ _ _ _ _ us hl => match us, hl with | [_, _, _], _ => rfl) (dv_cons (de_var 3 (pv 3)) (dv_cons ((df_lst (dv_cons (de_var 5 (pv 5)) (dv_cons (de_var 6 (pv 6)) dv_nil)))).de (dv_cons (de_lamM (n := 1) (P := 196) mk hM rfl rfl (by decide +kernel) tabs_nd rfl (by decide +kernel)) dv_nil)))))
    (ds_cons (ds_for (vs := [8, 9]) c PassesOwn.never (di_seq c.hK ((df_lst (dv_cons (de_tup (dv_cons (de_var 5 (pv 5)) (dv_cons (de_var 6 (pv 6)) dv_nil))) (dv_cons (de_tup (dv_cons (de_var 6 (pv 6)) (dv_cons (de_var 5 (pv 5)) dv_nil))) dv_nil)))).de) (dg_tup c (dgs_cons (dg_name c.nd 8) (dgs_cons (dg_name c.nd 9) dgs_nil)) (btsC_len (btsC_len btsN_len _) _))
    (ds_cons (ds_set c 10 (de_call c (g_parted) (hr.mono (by decide)) T.d_parted.g T.d_parted.F.kp (T.d_parted.F.binds (ps := p_parted) fun _ _ _ _ _ _ us hl => match us, hl with | [_, _, _], _ => rfl) (dv_cons (de_var 3 (pv 3)) (dv_cons (de_var 8 (pv 8)) (dv_cons (de_var 9 (pv 9)) dv_nil)))))
    (ds_cons (ds_if (dt_cmp (cd_ne c.hK c.u64) ((de_cmp cd_is (db_var 10 (pv 10)) (de_non).lent)).lent ((de_cmp cd_is (db_var 7 (pv 7)) (de_non).lent)).lent)
    (ds_one (ds_ret (de_bl).lent))
    ds_nil)
    (ds_cons (ds_if (dt_bool (dw_and (dt_cmp cd_isnot (db_var 10 (pv 10)) (de_non).lent) (dw_and1 (dt_cmp (cd_ne c.hK c.u64) ((de_fun (op := oLen) call_len (by rw [← c.hK]; exact cl_len) (by rfl) (T.nb_len) boot_len (da_cons (db_var 10 (pv 10)) da_nil))).lent (db_var 7 (pv 7))))))
    (ds_one (ds_ret (de_bl).lent))
    ds_nil)
    (ds_cons (ds_if (dt_bool (dw_and (dt_cmp cd_isnot (db_var 10 (pv 10)) (de_non).lent) (dw_and1 (dt_not (dt_val ((de_call c (g__law_do_part) (hr.mono (by decide)) T.d__law_do_part.g T.d__law_do_part.F.kp (T.d__law_do_part.F.binds (ps := p__law_do_part) fun _ _ _ _ _ _ us hl => match us, hl with | [_, _, _, _], _ => rfl) (dv_cons (de_var 3 (pv 3)) (dv_cons (de_var 8 (pv 8)) (dv_cons (de_var 9 (pv 9)) (dv_cons (de_var 10 (pv 10)) dv_nil)))))).lent)))))
    (ds_one (ds_ret (de_bl).lent))
    ds_nil)
    (ds_one (ds_if (dt_cmp (cd_ne c.hK c.u64) ((de_fun (op := oRepr) (call_repr c.gd c.u64) (by rw [← c.hK]; exact cl_repr) (by rfl) (T.nb_repr) (by decide +kernel) (da_cons ((de_call c (g_parted) (hr.mono (by decide)) T.d_parted.g T.d_parted.F.kp (T.d_parted.F.binds (ps := p_parted) fun _ _ _ _ _ _ us hl => match us, hl with | [_, _, _], _ => rfl) (dv_cons (de_var 3 (pv 3)) (dv_cons (de_var 8 (pv 8)) (dv_cons (de_var 9 (pv 9)) dv_nil))))).lent da_nil))).lent ((de_fun (op := oRepr) (call_repr c.gd c.u64) (by rw [← c.hK]; exact cl_repr) (by rfl) (T.nb_repr) (by decide +kernel) (da_cons (db_var 10 (pv 10)) da_nil))).lent)
    (ds_one (ds_ret (de_bl).lent))
    ds_nil)))))))
    (ds_one (ds_if (dt_cmp cd_isnot ((de_call c (g_parted) (hr.mono (by decide)) T.d_parted.g T.d_parted.F.kp (T.d_parted.F.binds (ps := p_parted) fun _ _ _ _ _ _ us hl => match us, hl with | [_, _, _], _ => rfl) (dv_cons (de_var 3 (pv 3)) (dv_cons (de_var 5 (pv 5)) (dv_cons (de_var 5 (pv 5)) dv_nil))))).lent (de_non).lent)
    (ds_one (ds_ret (de_bl).lent))
    ds_nil))))))))))
    (ds_one (ds_ret (de_bl).lent)))
    refine ⟨_, pss_cons (ps_set (i := 1) sc_law.nd rfl (by first | exact .inl rfl | exact .inr rfl) (pe_callG g_deck (hr.mono (by decide)) c.gd (by rfl) T.d__law_deck.g T.d__law_deck.F.kp b pass0 (pa_cons (pv 0) pa_nil))) r, ?_⟩
    exact law_read hK hS hl rfl ht k
end
end LK
namespace LK
open PySem PySem.Spec PyProof.Rows L2 DL
local macro_rules | `(tactic| wtm_at "z") => `(tactic| first
  | with_reducible refine w_sq ?_
  | with_reducible refine flk_nx ?_
  | with_reducible refine w_set ?_
  | with_reducible refine stt_z ?_
  | with_reducible refine stt_s ?_
  | with_reducible refine w_bin ?_
  | ((with_reducible refine' w_bvar ?e ?_); (case e => exact rfl))
  | ((with_reducible refine' w_var ?e ?_); (case e => exact rfl))
  | with_reducible refine w_c ?_
  | with_reducible refine bv_add ?_
  | with_reducible refine bv_sub ?_
  | with_reducible refine bv_rel ?_
  | with_reducible refine bv_mul ?_ ?_
  | with_reducible refine bv_div ?_ ?_
  | with_reducible refine bv_mod ?_ ?_
  | with_reducible refine bv_pow ?_ ?_
  | with_reducible refine bv_addT ?_ ?_
  | with_reducible refine bv_addL ?_ ?_
  | with_reducible refine bv_mulT ?_ ?_
  | with_reducible refine bv_ix0 ?_
  | with_reducible refine bv_ix0L ?_
  | ((with_reducible refine' bv (op := opIx) ?e ?_); (case e => exact rfl))
  | with_reducible refine bv_isB ?_
  | with_reducible refine bv_isNotB ?_
  | with_reducible refine bv_eqN ?_
  | with_reducible refine bv_neN ?_
  | with_reducible refine bv_eqB ?_
  | with_reducible refine bv_neB ?_
  | with_reducible refine w_anil ?_
  | with_reducible refine w_acons ?_
  | with_reducible refine w_call ?_
  | with_reducible refine w_fn ?_
  | with_reducible refine fw rfl ?_
  | with_reducible refine w_tof ?_
  | with_reducible refine tv ?_
  | with_reducible refine iv ?_
  | with_reducible refine w_not ?_
  | with_reducible refine w_and ?_
  | with_reducible refine w_or ?_
  | with_reducible refine w_yes ?_
  | with_reducible refine w_if ?_
  | with_reducible refine br_t ?_
  | with_reducible refine br_f ?_
  | with_reducible refine w_ret ?_
  | with_reducible refine rtk_rt ?_
  | with_reducible refine rtk_nx ?_
  | with_reducible refine flk_rt ?_
  | with_reducible refine flk_bk ?_
  | with_reducible refine flk_ct ?_
  | with_reducible refine w_nil ?_
  | with_reducible refine lpk_nx ?_
  | with_reducible refine lpk_ct ?_
  | with_reducible refine lpk_bk ?_
  | with_reducible refine lpk_rt ?_
  | with_reducible refine w_eL ?_
  | with_reducible refine w_iseq ?_
  | with_reducible refine w_lof ?_
  | with_reducible refine sv_l ?_
  | with_reducible refine sv_t ?_
  | with_reducible refine w_zip ?_
  | with_reducible refine zv_l ?_
  | with_reducible refine zv_t ?_
  | with_reducible refine w_lc ?_
  | with_reducible refine cv_lenL ?_
  | with_reducible refine cv_lenT ?_
  | with_reducible refine cv_abs ?_
  | with_reducible refine cv_int ?_
  | with_reducible refine cv_tupL ?_
  | with_reducible refine cv_tupT ?_
  | with_reducible refine cv_listL ?_
  | with_reducible refine cv_listT ?_
  | with_reducible refine w_sl ?_
  | with_reducible refine w_onone ?_
  | with_reducible refine w_osome ?_
  | with_reducible refine uv_slT ?_
  | with_reducible refine uv_slL ?_
  | with_reducible refine w_un ?_
  | with_reducible refine uv_neg ?_
  | with_reducible refine w_eand ?_
  | with_reducible refine w_eor ?_
  | with_reducible refine w_enot ?_
  | with_reducible refine w_eif ?_
  | with_reducible refine w_chain ?_
  | with_reducible refine w_seqD ?_
  | with_reducible refine w_lseq ?_
  | with_reducible refine dvl_nil ?_
  | with_reducible refine dvl_cons ?_
  | with_reducible refine w_for ?_
  | with_reducible refine w_rg1 ?_
  | with_reducible refine w_rg2 ?_
  | with_reducible refine w_rg3 ?_
  | with_reducible refine rg3 ?_ ?_
  | with_reducible refine rg1 ?_ ?_
  | with_reducible refine rg2 ?_ ?_
  | with_reducible refine w_new ?_
  | with_reducible refine w_newN ?_
  | with_reducible refine w_nL ?_
  | with_reducible refine w_nD ?_
  | with_reducible refine w_par ?_
  | with_reducible refine w_mval ?_
  | with_reducible refine w_mnew ?_
  | with_reducible refine w_mnil ?_
  | with_reducible refine sts_c ?_
  | with_reducible refine sts_n ?_
  | with_reducible refine w_brk ?_
  | with_reducible refine w_cnt ?_
  | with_reducible refine w_drop ?_
  | with_reducible refine w_retN ?_
  | ((with_reducible refine' w_frzL ?e ?_); (case e => exact rfl))
  | ((with_reducible refine' w_moveL ?e ?n ?_); (case e => exact rfl); (case n => decide))
  | ((with_reducible refine' w_ext ?e ?_); (case e => exact rfl))
  | ((with_reducible refine' w_app ?e ?_); (case e => exact rfl))
  | ((with_reducible refine' w_bvarL ?e ?_); (case e => exact rfl))
  | ((with_reducible refine' w_dk ?e ?x ?_); (case e => exact rfl); (case x => exact rfl))
  | ((with_reducible refine' w_dkne ?e ?_); (case e => exact rfl))
  | ((with_reducible refine' w_dkl ?e ?_); (case e => exact rfl))
  | ((with_reducible refine' w_dkc ?e ?_); (case e => exact rfl))
  | ((with_reducible refine' w_sdk ?e ?x ?_); (case e => exact rfl); (case x => decide))
  | ((with_reducible refine w_run ?_); dsimp only [List.map, List.replicate, List.append, HAppend.hAppend, Append.append])
  | ((with_reducible refine lenok ?e ?_); (case e => exact Nat.le_of_ble_eq_true rfl))
  | ((with_reducible refine ck ?e ?_); (case e => exact rfl))
  )
local macro_rules | `(tactic| wtm_at "z") => `(tactic| first
  | with_reducible refine w_m1 ?_
  | with_reducible refine xv ?_
  | with_reducible refine w_tsl ?_
  | with_reducible refine w_itxt ?_
  | with_reducible refine w_fnX ?_
  | with_reducible refine w_fnBX ?_
  | with_reducible refine fwX rfl ?_
  | with_reducible refine w_rz ?_
  )
theorem w_putN {S : Type} {T : Exn → S → Prop} {s : S} {ρ : DL.Env} {i : Nat} {fi f : Ex S} {kvs : List (PyData × PyData)} {Q : Fl → S → Prop} (e : ρ[i]? = some (.m kvs))
    (h : WT T (f ρ s) fun y s1 => WT T (fi ρ s1) fun k s2 => ∃ z kd kk, y = .d z ∧ k = .d kd ∧ tupKey kd = some kk ∧ (kvs.length < sizeLine ∧ allN kvs = true) ∧ Stt (ρ.set i (.m (dPutN kvs kd z kk))) fun ρ1 => Q (.nx ρ1) s2) : WT T (sPutN i fi f ρ s) Q := by
  unfold sPutN
  refine w_bind (h.mono fun y s1 h => ?_)
  rw [e]
  refine w_bind (h.mono fun k s2 ⟨z, kd, kk, hy, hk, ht, hc, q⟩ => ?_)
  subst hy hk
  show WT T (match tupKey kd with | some kk => _ | none => _) Q
  rw [ht]
  show WT T (if _ then _ else _) Q
  rw [if_pos hc]
  exact ⟨q⟩
theorem w_keysN {S : Type} {T : Exn → S → Prop} {s : S} {ρ : DL.Env} {f : Ex S} {Q : List PyData → S → Prop} (h : WT T (f ρ s) fun y s1 => ∃ kvs, y = .d (.dict kvs) ∧ (allN kvs = true ∧ kvs ≠ []) ∧ Q (kvs.map (·.1)) s1) : WT T (iKeysN f ρ s) Q := by
  unfold iKeysN
  refine w_bind (h.mono fun y s1 ⟨kvs, hy, hc, q⟩ => ?_)
  subst hy
  show WT T (if _ then _ else _) Q
  rw [if_pos hc]
  exact ⟨q⟩
theorem w_valsN {S : Type} {T : Exn → S → Prop} {s : S} {ρ : DL.Env} {f : Ex S} {Q : List PyData → S → Prop} (h : WT T (f ρ s) fun y s1 => ∃ kvs, y = .d (.dict kvs) ∧ (allN kvs = true ∧ kvs ≠ []) ∧ Q (kvs.map (·.2)) s1) : WT T (iValsN f ρ s) Q := by
  unfold iValsN
  refine w_bind (h.mono fun y s1 ⟨kvs, hy, hc, q⟩ => ?_)
  subst hy
  show WT T (if _ then _ else _) Q
  rw [if_pos hc]
  exact ⟨q⟩
theorem w_dEmp {S : Type} {T : Exn → S → Prop} {s : S} {ρ : DL.Env} {f : Ex S} {Q : Val → S → Prop} (h : WT T (f ρ s) fun y s1 => ∃ kvs, y = .d (.dict kvs) ∧ Q (.d (.bool kvs.isEmpty)) s1) : WT T (eDEmp f ρ s) Q := by
  unfold eDEmp
  refine w_bind (h.mono fun y s1 ⟨kvs, hy, q⟩ => ?_)
  subst hy
  exact ⟨q⟩
theorem w_enuT {S : Type} {T : Exn → S → Prop} {s : S} {ρ : DL.Env} {f : Ex S} {Q : List PyData → S → Prop} (h : WT T (f ρ s) fun y s1 => ∃ ds, y = .d (.tuple ds) ∧ Q ((List.range ds.length).zipWith (fun i d => PyData.tuple [.int (i : Nat), d]) ds) s1) : WT T (iEnuT f ρ s) Q := by
  unfold iEnuT
  refine w_bind (h.mono fun y s1 ⟨kvs, hy, q⟩ => ?_)
  subst hy
  exact ⟨q⟩
theorem w_frzM {S : Type} {T : Exn → S → Prop} {s : S} {ρ : DL.Env} {g1 : Sx S} {i : Nat} {kvs : List (PyData × PyData)} {Q : Fl → S → Prop} (e : ρ[i]? = some (.m kvs)) (h : Stt (ρ.set i (.v (.d (.dict kvs)))) fun ρ1 => WT T (g1 ρ1 s) Q) : WT T (sFrz i g1 ρ s) Q := by
  unfold sFrz frz
  rw [e]
  exact h
theorem w_moveM {S : Type} {T : Exn → S → Prop} {s : S} {ρ : DL.Env} {i j : Nat} {kvs : List (PyData × PyData)} {Q : Fl → S → Prop} (e : ρ[j]? = some (.m kvs)) (hn : i ≠ j) (h : Stt (ρ.set j .no) fun ρ1 => Stt (ρ1.set i (.m kvs)) fun ρ2 => Q (.nx ρ2) s) : WT T (sMove i j ρ s) Q := by
  unfold sMove
  rw [e]
  show WT T (if i = j then _ else _) Q
  rw [if_neg hn]
  exact ⟨h⟩
theorem w_moveV {S : Type} {T : Exn → S → Prop} {s : S} {ρ : DL.Env} {i j : Nat} {y : Val} {Q : Fl → S → Prop} (e : ρ[j]? = some (.v y)) (h : Stt (ρ.set i (.v y)) fun ρ2 => Q (.nx ρ2) s) : WT T (sMove i j ρ s) Q := by
  unfold sMove
  rw [e]
  exact ⟨h⟩
local macro_rules | `(tactic| wtm_at "z") => `(tactic| first
  | with_reducible refine w_keysN ?_
  | with_reducible refine w_valsN ?_
  | with_reducible refine w_dEmp ?_
  | with_reducible refine w_enuT ?_
  | ((with_reducible refine' w_putN ?e ?_); (case e => exact rfl))
  | ((with_reducible refine' w_frzM ?e ?_); (case e => exact rfl))
  | ((with_reducible refine' w_moveM ?e ?n ?_); (case e => exact rfl); (case n => decide))
  | ((with_reducible refine' w_moveV ?e ?_); (case e => exact rfl))
  | ((with_reducible refine' w_bvarM ?e ?_); (case e => exact rfl))
  )
theorem w_lam {T : Exn → Dk → Prop} {ρ : DL.Env} {s : Dk} {n : Nat} {Q : Val → Dk → Prop} (h : Q (.f n) s) : WT T (eLam n ρ s) Q := ⟨h⟩
theorem w_callF {T : Exn → Dk → Prop} {ρ : DL.Env} {s : Dk} {lam : Nat → Option (Nat × (List Val → Dk → Out Dk Val))} {i n m : Nat} {F : List Val → Dk → Out Dk Val} {g : Exs Dk} {Q : Val → Dk → Prop} (e : ρ[i]? = some (.v (.f n))) (hl : lam n = some (m, F)) (h : WT T (eFn m F g ρ s) Q) : WT T (eCallF lam i g ρ s) Q := by
  unfold eCallF
  rw [e]
  show WT T (match lam n with | some mF => eFn mF.1 mF.2 g ρ s | none => .bad) Q
  rw [hl]
  exact h
theorem w_nDictN {S : Type} {T : Exn → S → Prop} {ρ : DL.Env} {s : S} {f : Ex S} {Q : Sl → S → Prop} (h : WT T (f ρ s) fun y s1 => ∃ ds ps, y = .d (.list ds) ∧ pairsN ds = some ps ∧ Q (.m (dAllN [] ps)) s1) : WT T (nDictN f ρ s) Q := by
  unfold nDictN
  refine w_bind (h.mono fun y s1 ⟨ds, ps, hy, hp, q⟩ => ?_)
  subst hy
  show WT T (match pairsN ds with | some ps => _ | none => _) Q
  rw [hp]
  exact ⟨q⟩
local macro_rules | `(tactic| wtm_at "z") => `(tactic| first
  | with_reducible refine w_lam ?_
  | with_reducible refine w_nDictN ?_
  )
theorem w_extT {S : Type} {T : Exn → S → Prop} {ρ : DL.Env} {s : S} {i : Nat} {f : Ex S} {ds : List PyData} {Q : Fl → S → Prop} (e : ρ[i]? = some (.l ds)) (h : WT T (f ρ s) fun y s1 => ∃ zs, y = .d (.tuple zs) ∧ ds.length + zs.length ≤ sizeLine ∧ Stt (ρ.set i (.l (ds ++ zs))) fun ρ1 => Q (.nx ρ1) s1) : WT T (sExtT i f ρ s) Q := by
  unfold sExtT
  rw [e]
  refine w_bind (h.mono fun y s1 ⟨z, hy, hl, q⟩ => ?_)
  subst hy
  show WT T (if ds.length + z.length ≤ sizeLine then _ else _) Q
  rw [if_pos hl]
  exact ⟨q⟩
local macro_rules | `(tactic| wtm_at "z") => `(tactic| first
  | ((with_reducible refine' w_extT ?e ?_); (case e => exact rfl))
  )
structure KEnc {κ : Type} (ke : κ → PyData) (kk : κ → NestedKey) : Prop where
  tk : ∀ k, tupKey (ke k) = some (kk k)
  inj : ∀ a b, kk a = kk b → a = b
theorem KEnc.key {κ : Type} {ke : κ → PyData} {kk : κ → NestedKey} (E : KEnc ke kk) (k : κ) : keyD (ke k) = some (kk k) := (tupKey_some (E.tk k)).1
def encM {κ β : Type} (ke : κ → PyData) (ve : β → PyData) (l : List (κ × β)) : List (PyData × PyData) := l.map fun p => (ke p.1, ve p.2)
def getK {κ β : Type} [DecidableEq κ] (l : List (κ × β)) (k : κ) : Option β := (l.find? fun p => decide (p.1 = k)).map (·.2)
def putK {κ β : Type} [DecidableEq κ] (l : List (κ × β)) (k : κ) (v : β) : List (κ × β) :=
  if (getK l k).isSome then l.map (fun p => if p.1 = k then (p.1, v) else p) else l ++ [(k, v)]
theorem encM_all {κ β : Type} {ke : κ → PyData} {kk : κ → NestedKey} (E : KEnc ke kk) (ve : β → PyData) (l : List (κ × β)) : allN (encM ke ve l) = true := by
  unfold allN encM
  rw [List.all_map]
  exact List.all_eq_true.mpr fun p _ => by
    show (tupKey (ke p.1)).isSome = true
    rw [E.tk]
    rfl
theorem encM_get {κ β : Type} [DecidableEq κ] {ke : κ → PyData} {kk : κ → NestedKey} (E : KEnc ke kk) (ve : β → PyData) (l : List (κ × β)) (k : κ) : dGetN (encM ke ve l) (kk k) = (getK l k).map ve := by
  unfold dGetN encM getK
  rw [List.find?_map, Option.map_map, Option.map_map]
  have e : ((fun p : PyData × PyData => decide (keyD p.1 = some (kk k))) ∘ fun p : κ × β => (ke p.1, ve p.2)) = fun p => decide (p.1 = k) := by
    funext p
    show decide (keyD (ke p.1) = some (kk k)) = decide (p.1 = k)
    rw [E.key]
    refine decide_eq_decide.mpr ⟨fun h => E.inj _ _ (Option.some.inj h), fun h => by rw [h]⟩
  rw [e]
  rfl
theorem encM_put {κ β : Type} [DecidableEq κ] {ke : κ → PyData} {kk : κ → NestedKey} (E : KEnc ke kk) (ve : β → PyData) (l : List (κ × β)) (k : κ) (v : β) : dPutN (encM ke ve l) (ke k) (ve v) (kk k) = encM ke ve (putK l k v) := by
  unfold dPutN putK
  rw [encM_get E]
  have e : ((getK l k).map ve).isSome = (getK l k).isSome := by cases getK l k <;> rfl
  rw [e]
  split
  · unfold encM
    rw [List.map_map, List.map_map]
    refine List.map_congr_left fun p _ => ?_
    show (if keyD (ke p.1) = some (kk k) then (ke p.1, ve v) else (ke p.1, ve p.2)) = (ke (if p.1 = k then (p.1, v) else p).1, ve (if p.1 = k then (p.1, v) else p).2)
    rw [E.key]
    by_cases h : p.1 = k
    · rw [if_pos h, h, if_pos rfl]
    · rw [if_neg h, if_neg fun h' => h (E.inj _ _ (Option.some.inj h'))]
  · unfold encM
    rw [List.map_append]
    rfl
theorem getK_none {κ β : Type} [DecidableEq κ] {l : List (κ × β)} {k : κ} (h : getK l k = none) : ∀ p ∈ l, p.1 ≠ k := by
  unfold getK at h
  rw [Option.map_eq_none_iff, List.find?_eq_none] at h
  exact fun p hp e => h p hp (decide_eq_true e)
theorem mem_putK {κ β : Type} [DecidableEq κ] {l : List (κ × β)} {k : κ} {v : β} {p : κ × β} (h : p ∈ putK l k v) : p = (k, v) ∨ p ∈ l ∧ p.1 ≠ k := by
  unfold putK at h
  split at h
  · obtain ⟨q, hq, rfl⟩ := List.mem_map.mp h
    by_cases e : q.1 = k
    · rw [if_pos e, e]; exact .inl rfl
    · rw [if_neg e]; exact .inr ⟨hq, e⟩
  · rename_i hn
    rcases List.mem_append.mp h with h | h
    · exact .inr ⟨h, getK_none (by cases e : getK l k with | none => rfl | some _ => rw [e] at hn; exact absurd rfl hn) p h⟩
    · exact .inl (List.mem_singleton.mp h)
theorem putK_nodup {κ β : Type} [DecidableEq κ] {l : List (κ × β)} (k : κ) (v : β) (h : (l.map (·.1)).Nodup) : ((putK l k v).map (·.1)).Nodup := by
  unfold putK
  split
  · rw [List.map_map]
    have e : l.map ((fun p : κ × β => p.1) ∘ fun p => if p.1 = k then (p.1, v) else p) = l.map (·.1) := List.map_congr_left fun p _ => by
      show (if p.1 = k then (p.1, v) else p).1 = p.1
      split <;> rfl
    rw [e]
    exact h
  · rename_i hn
    rw [List.map_append, List.nodup_append]
    refine ⟨h, by simp, fun a ha b hb => ?_⟩
    have hb : b = k := by simpa using hb
    obtain ⟨p, hp, rfl⟩ := List.mem_map.mp ha
    rw [hb]
    exact getK_none (by cases e : getK l k with | none => rfl | some _ => rw [e] at hn; exact absurd rfl hn) p hp
theorem nodup_len {α : Type} [DecidableEq α] : ∀ {l m : List α}, l.Nodup → (∀ x ∈ l, x ∈ m) → l.length ≤ m.length
  | [], _, _, _ => Nat.zero_le _
  | x :: xs, m, hn, hs => by
    rw [List.nodup_cons] at hn
    have hx := hs x (by simp)
    have h1 := nodup_len (l := xs) (m := m.erase x) hn.2 fun y hy => (List.mem_erase_of_ne (fun e => hn.1 (by rw [← e]; exact hy))).mpr (hs y (by simp [hy]))
    have h2 := List.length_erase_of_mem hx
    have h3 := List.length_pos_of_mem hx
    rw [List.length_cons]
    omega
theorem bv_notInN {S : Type} {s : S} {Q : Val → S → Prop} {κ β : Type} [DecidableEq κ] {ke : κ → PyData} {kk : κ → NestedKey} (E : KEnc ke kk) {ve : β → PyData} (l : List (κ × β)) (k : κ) (q : Q (.d (.bool (!(getK l k).isSome))) s) : BV opNotInN (.d (ke k)) (.d (.dict (encM ke ve l))) s Q := by
  refine bv ?_ q
  show (match tupKey (ke k) with | some k => if allN (encM ke ve l) then some (PyData.bool (!(dGetN (encM ke ve l) k).isSome)) else none | none => none) = _
  rw [E.tk]
  show (if allN (encM ke ve l) = true then some (PyData.bool (!(dGetN (encM ke ve l) (kk k)).isSome)) else none) = _
  rw [if_pos (encM_all E ve l), encM_get E]
  cases getK l k <;> rfl
/-- a wheel -/
structure Wh where
  ws : List Int
  room : Int
  sizes : List Int
  lo : Int
  hi : Int
  pat : Int
  look : Int
abbrev iT (xs : List Int) : PyData := .tuple (xs.map .int)
def Wh.d (w : Wh) : PyData := .tuple [iT w.ws, .int w.room, iT w.sizes, .tuple [.int w.lo, .int w.hi], .int w.pat, .int w.look]
def dotL (ws ls : List Int) : Int := ((ws.zip ls).map fun p => p.1 * p.2).sum
def SmallL (ws : List Int) : Prop := ws.length ≤ 1000 ∧ ∀ w ∈ ws, -(2 ^ 64) < w ∧ w < 2 ^ 64
theorem zip_ints (a b : List Int) : zipD (a.map .int) (b.map .int) = (a.zip b).map fun p => .tuple [.int p.1, .int p.2] := by
  unfold zipD
  rw [List.zip_map, List.map_map]
  rfl
theorem lean_eq (w : Wh) (ls : List Int) (hw : SmallL w.ws) (s : Dk) : m_lean [.d w.d, .d (iT ls)] s = .ok (.d (.int (dotL w.ws ls))) s := by
  refine w_eq ?_
  unfold m_lean b_lean Wh.d iT
  repeat wtm_at "z"
  rw [zip_ints]
  refine ⟨by rw [List.length_map, List.length_zip]; have := hw.1; have := sizeLine_big; omega, ?_⟩
  refine lc_mapOf _ (fun p => .int (p.1 * p.2)) _ (fun p hp => item1 rfl ?_) ?_
  · repeat wtm_at "z"
    · exact ⟨_, rfl, rfl, rfl⟩
    · exact .inl (hw.2 _ (List.of_mem_zip hp).1)
  · repeat wtm_at "z"
    refine cv_sum ?_
    repeat wtm_at "z"
    exact ⟨rfl, rfl⟩
theorem rep0 (n : Nat) : (List.replicate n [PyData.int 0]).flatten = (List.replicate n (0 : Int)).map .int := by
  induction n with
  | zero => rfl
  | succ n ih => rw [List.replicate_succ, List.flatten_cons, ih]; rfl
def Wh.up (w : Wh) (ls : List Int) : Bool := decide (w.lo ≤ dotL w.ws ls) && decide (dotL w.ws ls ≤ w.hi)
theorem is_upright_eq (w : Wh) (ls : List Int) (hw : SmallL w.ws) (s : Dk) : m_is_upright [.d w.d, .d (iT ls)] s = .ok (.d (.bool (w.up ls))) s := by
  refine w_eq ?_
  unfold m_is_upright b_is_upright
  repeat wtm_at "z"
  refine w_unp ?_
  repeat wtm_at "z"
  refine ⟨_, _, rfl, rfl, ?_⟩
  repeat wtm_at "z"
  refine w_of (lean_eq w ls hw _) ?_
  repeat wtm_at "z"
  unfold Wh.up
  refine br_dec (fun h => ?_) fun h => ?_
  · repeat wtm_at "z"
    refine w_of (lean_eq w ls hw _) ?_
    repeat wtm_at "z"
    exact ⟨by rw [decide_eq_true h]; rfl, rfl⟩
  · repeat wtm_at "z"
    exact ⟨by rw [decide_eq_false h]; rfl, rfl⟩
def turnL (ls : List Int) : List Int := 0 :: ls.dropLast
theorem turned_loads_eq (ls : List Int) (hl : ls.length ≤ 1000) (s : Dk) : m_turned_loads [.d (iT ls)] s = .ok (.d (iT (turnL ls))) s := by
  refine w_eq ?_
  unfold m_turned_loads b_turned_loads iT
  repeat wtm_at "z"
  · rw [cut_init]
    refine ⟨?_, rfl⟩
    unfold turnL
    simp [List.map_dropLast]
  · rw [cut_init]
    have := sizeLine_big
    simp
    omega
structure DkOk (k : Int) (s : Dk) : Prop where
  beg : 0 ≤ s.beg
  d0 : 0 ≤ s.drw
  dk : s.drw ≤ k
theorem dr1 (c d : Int) (h0 : 0 ≤ d) (h1 : d ≤ 1000000000) : (0 : Int) ≤ 5 ∧ (5 : Int) ≤ 1000000 ∧ (c % 2147483629 + 49979687 * d).natAbs < 2 ^ 64 := by omega
theorem dr2 (z d : Int) (h0 : 0 ≤ d) (h1 : d ≤ 1000000000) : (0 : Int) ≤ 3 ∧ (3 : Int) ≤ 1000000 ∧ (z % 2147483647 * (2 * d + 3) + 8887).natAbs < 2 ^ 64 := by
  have m0 := Int.emod_nonneg z (by decide : (2147483647 : Int) ≠ 0)
  have m1 := Int.emod_lt_of_pos z (by decide : (0 : Int) < 2147483647)
  generalize z % 2147483647 = m at *
  have a := Int.mul_nonneg m0 (by omega : 0 ≤ 2 * d + 3)
  have b := Int.mul_le_mul (by omega : m ≤ 2147483646) (by omega : 2 * d + 3 ≤ 2000000003) (by omega) (by decide)
  refine ⟨by decide, by decide, ?_⟩
  omega
theorem draw_ok (n : Int) (h0 : 0 < n) (h1 : n < 1073741824) {s : Dk} {k : Int} (hs : DkOk k s) (hk : k < 1000000000) {Q : Val → Dk → Prop} (q : ∀ r s', 0 ≤ r → r < n → DkOk (k + 1) s' → s'.dk = s.dk → Q (.d (.int r)) s') :
    W (m__law_draw [.r (.ref s.dk), .d (.int n)] s) Q := by
  have hd0 := hs.d0
  have hdk := hs.dk
  have hb := hs.beg
  unfold m__law_draw b__law_draw
  repeat wtm_at "z"
  refine br_dec (fun hl => ?_) fun hl => ?_
  · repeat wtm_at "z"
    · exact q _ _ (Int.emod_nonneg _ (by omega)) (Int.emod_lt_of_pos _ h0) ⟨hb, (by show 0 ≤ s.drw + 1; omega), (by show s.drw + 1 ≤ k + 1; omega)⟩ rfl
    · exact ⟨h0, h1⟩
    · exact h0
  · repeat wtm_at "z"
    have hlen : (!s.cells.isEmpty) = true → (0 : Int) < s.cells.length := fun hc => by
      cases e : s.cells with
      | nil => rw [e] at hc; cases hc
      | cons a b => simp
    refine br_join (fun fl s1 => ∃ c : Int, fl = .nx [.v (.r (.ref s.dk)), .v (.d (.int n)), .no, .v (.d (.int c)), .no] ∧ s1 = s.put 3 (s.drw + 1)) (fun hc => ?_) (fun hc => ?_) ?_
    · repeat wtm_at "z"
      · have hp := hlen hc
        obtain ⟨_, e⟩ := atI_get (xs := s.cells) (i := s.beg % (s.cells.length : Int)) (Int.emod_nonneg _ (by omega)) (Int.emod_lt_of_pos _ hp)
        refine ⟨_, e, ?_⟩
        repeat wtm_at "z"
        exact ⟨_, rfl, rfl⟩
      · exact hlen hc
    · repeat wtm_at "z"
      exact ⟨_, rfl, rfl⟩
    · rintro fl s1 ⟨c, rfl, rfl⟩
      repeat wtm_at "z"
      refine br_joinA (fun b s1 => s1 = (s.put 3 (s.drw + 1)).put 1 (s.beg + 1)) (fun _ => ?_) (fun _ => ?_) ?_
      · repeat wtm_at "z"
        rfl
      · rfl
      · rintro b s1 rfl
        refine br (fun hb => ?_) fun hb => ?_
        · repeat wtm_at "z"
          · exact q _ _ (Int.emod_nonneg _ (by omega)) (Int.emod_lt_of_pos _ h0) ⟨(by show 0 ≤ s.beg + 1; omega), (by show 0 ≤ s.drw + 1; omega), (by show s.drw + 1 ≤ k + 1; omega)⟩ rfl
          · exact h0
          · exact ⟨h0, h1⟩
        · have ed : ((s.put 3 (s.drw + 1)).put 1 (s.beg + 1)).drw = s.drw + 1 := rfl
          repeat wtm_at "z"
          · exact q _ _ (Int.emod_nonneg _ (by omega)) (Int.emod_lt_of_pos _ h0) ⟨(by show 0 ≤ s.beg + 1; omega), (by show 0 ≤ s.drw + 1; omega), (by show s.drw + 1 ≤ k + 1; omega)⟩ rfl
          · exact h0
          · exact ⟨by decide, by decide⟩
          · decide
          · exact dr2 _ _ (by omega) (by omega)
          · exact .inr ⟨by omega, by omega⟩
          · exact .inl ⟨by decide, by decide⟩
          · decide
          · exact dr1 _ _ (by omega) (by omega)
          · exact .inl ⟨by decide, by decide⟩
          · decide
      · exact ⟨by decide, by decide, by decide⟩
theorem DkOk.le {k k' : Int} {s : Dk} (h : DkOk k s) (e : k ≤ k') : DkOk k' s := ⟨h.beg, h.d0, Int.le_trans h.dk e⟩
theorem one_ok {ds : List PyData} (h0 : 0 < ds.length) (h1 : ds.length < 1000000) {s : Dk} {k : Int} (hs : DkOk k s) (hk : k < 1000000000) {Q : Val → Dk → Prop} (q : ∀ d s', d ∈ ds → DkOk (k + 1) s' → s'.dk = s.dk → Q (.d d) s') :
    W (m__law_one [.r (.ref s.dk), .d (.list ds)] s) Q := by
  unfold m__law_one b__law_one
  repeat wtm_at "z"
  refine draw_ok _ (by omega) (by omega) hs hk fun r s' r0 r1 ok' e => ?_
  obtain ⟨h, e2⟩ := atI_get r0 r1
  refine bv (op := opIx) e2 ?_
  repeat wtm_at "z"
  exact q _ _ (List.getElem_mem _) ok' e
/-- the counting of a wheel's stands -/
def cntL (n : Nat) (room : Int) (z : Nat) (pat look : Int) : Int := (pat + 1) * (room + 1) ^ n * (z : Int) ^ look.toNat
theorem count_eq (ws : List PyData) (room : Int) (zs : List PyData) (pat look : Int) (hr : 0 ≤ room ∧ room < 1000) (hz : zs.length < 1000) (hl : 0 ≤ look ∧ look < 1000) (s : Dk) :
    m__law_count [.d (.list ws), .d (.int room), .d (.tuple zs), .d (.int pat), .d (.int look)] s = .ok (.d (.int (cntL ws.length room zs.length pat look))) s := by
  refine w_eq ?_
  unfold m__law_count b__law_count
  repeat wtm_at "z"
  refine for_inv (fun n ρ s' => s' = s ∧ ∃ x, ρ = [.v (.d (.list ws)), .v (.d (.int room)), .v (.d (.tuple zs)), .v (.d (.int pat)), .v (.d (.int look)), .v (.d (.int ((pat + 1) * (room + 1) ^ n))), x, .no]) ws 0 ⟨rfl, .no, by simp⟩ ?_ ?_
  · rintro n d hd ρ s' ⟨rfl, x, rfl⟩
    refine ⟨_, rfl, ?_⟩
    repeat wtm_at "z"
    · refine ⟨rfl, .v (.d d), ?_⟩
      simp only [List.set_cons_zero, List.set_cons_succ]
      rw [Int.mul_assoc, ← Int.pow_succ]
    · right; omega
  · rintro ρ s' ⟨rfl, x, rfl⟩
    rw [Nat.zero_add]
    repeat wtm_at "z"
    · refine for_inv (fun n ρ s1 => s1 = s' ∧ ∃ y, ρ = [.v (.d (.list ws)), .v (.d (.int room)), .v (.d (.tuple zs)), .v (.d (.int pat)), .v (.d (.int look)), .v (.d (.int ((pat + 1) * (room + 1) ^ ws.length * (zs.length : Int) ^ n))), x, y]) (rngD 0 look.toNat) 0 ?_ ?_ ?_
      · exact ⟨rfl, .no, by simp⟩
      · rintro n d hd ρ s' ⟨rfl, y, rfl⟩
        refine ⟨_, rfl, ?_⟩
        repeat wtm_at "z"
        · refine ⟨rfl, .v (.d d), ?_⟩
          simp only [List.set_cons_zero, List.set_cons_succ]
          rw [Int.mul_assoc, ← Int.pow_succ]
        · right; omega
      · rintro ρ s1 ⟨rfl, y, rfl⟩
        repeat wtm_at "z"
        unfold cntL
        rw [rng_len]
        simp
    · omega
structure Dks (a : Addr) (k : Int) (s : Dk) : Prop where
  ok : DkOk k s
  eq : s.dk = a
theorem Dks.le {a : Addr} {k k' : Int} {s : Dk} (h : Dks a k s) (e : k ≤ k') : Dks a k' s := ⟨h.ok.le e, h.eq⟩
theorem draw_a {a : Addr} {n : Int} {s : Dk} {k : Int} (hs : Dks a k s) (hk : k < 1000000000) (h : 0 < n ∧ n < 1073741824) {Q : Val → Dk → Prop} (q : ∀ r s', 0 ≤ r → r < n → Dks a (k + 1) s' → Q (.d (.int r)) s') :
    W (m__law_draw [.r (.ref a), .d (.int n)] s) Q := by
  obtain ⟨ok', rfl⟩ := hs
  exact draw_ok n h.1 h.2 ok' hk fun r s' r0 r1 o e => q r s' r0 r1 ⟨o, e⟩
theorem one_a {a : Addr} {ds : List PyData} {s : Dk} {k : Int} (hs : Dks a k s) (hk : k < 1000000000) (h : 0 < ds.length ∧ ds.length < 1000000) {Q : Val → Dk → Prop} (q : ∀ d s', d ∈ ds → Dks a (k + 1) s' → Q (.d d) s') :
    W (m__law_one [.r (.ref a), .d (.list ds)] s) Q := by
  obtain ⟨ok', rfl⟩ := hs
  exact one_ok h.1 h.2 ok' hk fun r s' m o e => q r s' m ⟨o, e⟩
/-- .. among numbers -/
theorem one_n {a : Addr} (ns : List Int) {s : Dk} {k : Int} (hs : Dks a k s) (hk : k < 1000000000) (h : 0 < ns.length ∧ ns.length < 1000000) {Q : Val → Dk → Prop} (q : ∀ n s', n ∈ ns → Dks a (k + 1) s' → Q (.d (.int n)) s') :
    W (m__law_one [.r (.ref a), .d (.list (ns.map .int))] s) Q :=
  one_a hs hk (by simpa using h) fun d s' m o => by
    obtain ⟨n, hn, rfl⟩ := List.mem_map.mp m
    exact q n s' hn o
structure GoodWh (most : Int) (w : Wh) : Prop where
  n : 2 ≤ w.ws.length ∧ w.ws.length ≤ 6
  ws : ∀ x ∈ w.ws, -9 ≤ x ∧ x ≤ 9
  room : 1 ≤ w.room ∧ w.room ≤ 4
  ne : w.sizes ≠ []
  asc : w.sizes.Pairwise (· < ·)
  zs : ∀ z ∈ w.sizes, 1 ≤ z ∧ z ≤ w.room
  zl : w.sizes.length ≤ 4
  lo : -61 < w.lo ∧ w.lo ≤ 0
  hi : 0 ≤ w.hi ∧ w.hi < 61
  pat : 1 ≤ w.pat ∧ w.pat ≤ 6
  look : 1 ≤ w.look ∧ w.look ≤ 3
  cnt : cntL w.ws.length w.room w.sizes.length w.pat w.look ≤ most
theorem GoodWh.small {most : Int} {w : Wh} (h : GoodWh most w) : SmallL w.ws := ⟨by have := h.n; omega, fun x hx => by have := h.ws x hx; omega⟩
theorem cnt_least {room : Int} {z : Nat} (hr : 1 ≤ room ∧ room ≤ 4) (hz : z ≤ 4) : cntL 2 room z 1 1 ≤ 200 := by
  have e : cntL 2 room z 1 1 = 2 * ((room + 1) * (room + 1)) * (z : Int) := by
    unfold cntL
    rw [Int.pow_succ, Int.pow_succ, Int.pow_zero, Int.one_mul, show (1 : Int).toNat = 1 from rfl, Int.pow_succ, Int.pow_zero, Int.one_mul]
    rfl
  rw [e]
  have : room = 1 ∨ room = 2 ∨ room = 3 ∨ room = 4 := by omega
  rcases this with rfl | rfl | rfl | rfl <;> omega
theorem wheel_okB {a : Addr} {most M : Int} (hm : 200 ≤ M) (hmm : most ≤ M) {s : Dk} {k : Int} (hs : Dks a k s) (hk : k < 900000000) {Q : Val → Dk → Prop} (q : ∀ w s', GoodWh M w → (-31 < w.lo ∧ w.hi < 31) → Dks a (k + 40) s' → Q (.d w.d) s') :
    W (m__law_wheel [.r (.ref a), .d (.int most)] s) Q := by
  unfold m__law_wheel b__law_wheel
  repeat wtm_at "z"
  refine one_n [1, 2, 2, 2, 3, 4] hs (by omega) (by decide) fun room s1 hroom hs1 => ?_
  have hr : 1 ≤ room ∧ room ≤ 4 := by simp at hroom; omega
  clear hroom
  repeat wtm_at "z"
  · refine ⟨by rw [rng_len]; have := sizeLine_big; omega, ?_⟩
    refine lc_inv (fun n acc s' => Dks a (k + 1 + n) s' ∧ ∃ zs : List Int, acc = zs.map .int ∧ zs.Pairwise (· < ·) ∧ zs.length ≤ n ∧ ∀ z ∈ zs, 1 ≤ z ∧ z ≤ n) (rngD 1 (room + 1 - 1).toNat) 0 [] ⟨by simpa using hs1, [], rfl, .nil, Nat.le_refl _, fun z hz => by cases hz⟩ ?_ ?_
    · rintro n d hd acc s' ⟨hs', zs, rfl, p, hl, hz⟩
      obtain ⟨hn, rfl⟩ := rng_at hd
      refine item rfl ?_
      repeat wtm_at "z"
      refine draw_a hs' (by omega) (by omega) fun r s2 r0 r1 hs2 => ?_
      repeat wtm_at "z"
      refine br_dec (fun hp => ?_) fun hp => ?_
      · repeat wtm_at "z"
        refine ⟨_, rfl, hs2.le (by omega), zs ++ [1 + (n : Int)], by simp, ?_, by simp; omega, ?_⟩
        · refine List.pairwise_append.mpr ⟨p, by simp, fun x hx y hy => ?_⟩
          have := hz x hx
          simp at hy
          omega
        · intro z hz'
          rcases List.mem_append.mp hz' with m | m
          · have := hz z m; omega
          · simp at m; omega
      · exact ⟨hs2.le (by omega), zs, by simp, p, by omega, fun z hz' => by have := hz z hz'; omega⟩
    · rintro r s2 ⟨hs2, zs, hr2, p, hl, hz⟩
      rw [rng_len] at hl hz hs2
      have hr2 : r = zs.map .int := hr2
      subst hr2
      repeat wtm_at "z"
      refine bv_neI0 ?_
      repeat wtm_at "z"
      -- the sizes, the room for the rest
      have zl : zs.length ≤ 4 := by omega
      have hz' : ∀ z ∈ zs, 1 ≤ z ∧ z ≤ room := fun z m => by have := hz z m; omega
      refine br_join (fun y s3 => ∃ zs : List Int, y = .d (.tuple (zs.map .int)) ∧ zs ≠ [] ∧ zs.Pairwise (· < ·) ∧ zs.length ≤ 4 ∧ (∀ z ∈ zs, 1 ≤ z ∧ z ≤ room) ∧ Dks a (k + 6) s3) (fun he => ?_) (fun he => ?_) ?_
      · repeat wtm_at "z"
        exact ⟨zs, rfl, by simpa using he, p, zl, hz', hs2.le (by omega)⟩
      · repeat wtm_at "z"
        refine draw_a hs2 (by omega) (by omega) fun r s3 r0 r1 hs3 => ?_
        repeat wtm_at "z"
        refine ⟨[1 + r], rfl, by simp, by simp, by simp, fun z m => ?_, hs3.le (by omega)⟩
        simp at m
        omega
      · rintro _ s3 ⟨zs', rfl, zne, zasc, zl', zin, hs3⟩
        repeat wtm_at "z"
        clear zl hz' p hl hz hr2 hs2
        clear zs
        refine draw_a hs3 (by omega) (by omega) fun r s4 r0 r1 hs4 => ?_
        repeat wtm_at "z"
        refine one_n [1, 1, 2, 2, 3, 1 + r] hs4 (by omega) (by simp) fun pat s5 hpat hs5 => ?_
        have hp : 1 ≤ pat ∧ pat ≤ 6 := by simp at hpat; omega
        clear hpat hs4 hs3
        repeat wtm_at "z"
        refine one_n [1, 1, 1, 2, 3] hs5 (by omega) (by simp) fun look s6 hlook hs6 => ?_
        have hl : 1 ≤ look ∧ look ≤ 3 := by simp at hlook; omega
        clear hlook hs5
        repeat wtm_at "z"
        refine one_n [1, 1, 2, 9] hs6 (by omega) (by simp) fun wide s7 hwide hs7 => ?_
        have hw : 1 ≤ wide ∧ wide ≤ 9 := by simp at hwide; omega
        clear hwide hs6
        repeat wtm_at "z"
        refine one_n [2, 3, 3, 4, 5, 6] hs7 (by omega) (by simp) fun num s8 hnum hs8 => ?_
        have hn : 2 ≤ num ∧ num ≤ 6 := by simp at hnum; omega
        clear hnum hs7
        repeat wtm_at "z"
        · refine ⟨by rw [rng_len]; have := sizeLine_big; omega, ?_⟩
          refine lc_inv (fun n acc s' => Dks a (k + 11 + n) s' ∧ ∃ ws : List Int, acc = ws.map .int ∧ ws.length = n ∧ ∀ x ∈ ws, -9 ≤ x ∧ x ≤ 9) (rngD 0 num.toNat) 0 [] ⟨hs8.le (by omega), [], rfl, rfl, fun z hz => by cases hz⟩ ?_ ?_
          · rintro n d hd acc s' ⟨hs', ws, rfl, hwl, hws⟩
            obtain ⟨hn', rfl⟩ := rng_at hd
            refine item1 rfl ?_
            repeat wtm_at "z"
            · refine draw_a hs' (by omega) (by omega) fun r s2 r0 r1 hs2 => ?_
              repeat wtm_at "z"
              refine ⟨_, rfl, hs2.le (by omega), ws ++ [r - wide], by simp, by simp; omega, fun x hx => ?_⟩
              rcases List.mem_append.mp hx with m | m
              · exact hws x m
              · simp at m; omega
            · left; omega
          · rintro r s9 ⟨hs9, ws, hr9, hwl, hws⟩
            rw [rng_len] at hwl hs9
            have hr9 : r = ws.map .int := hr9
            subst hr9
            repeat wtm_at "z"
            refine w_while (fun m ρ s10 => Dks a (k + 20) s10 ∧ ∃ ws : List Int, m = ws.length ∧ 2 ≤ ws.length ∧ ws.length ≤ 6 ∧ (∀ x ∈ ws, -9 ≤ x ∧ x ≤ 9) ∧
              ρ = [.v (.r (.ref a)), .v (.d (.int most)), .v (.d (.int room)), .v (.d (.tuple (zs'.map .int))), .no, .v (.d (.int pat)), .v (.d (.int look)), .v (.d (.int wide)), .v (.d (.list (ws.map .int))), .no, .no, .no]) (m := ws.length) (by omega) ⟨hs9.le (by omega), ws, rfl, by omega, by omega, hws, rfl⟩ ?_
            rintro m ρ s10 ⟨hs10, ws, rfl, hw2, hw6, hws, rfl⟩
            repeat wtm_at "z"
            refine br_joinA (fun b s' => s' = s10 ∧ (b = true → 2 < ws.length) ∧ (b = false → ws.length = 2 ∨ cntL ws.length room zs'.length pat look ≤ most)) (fun h2 => ?_) (fun h2 => ?_) ?_
            · repeat wtm_at "z"
              refine w_of (count_eq _ _ _ _ _ (by omega) (by simp; omega) (by omega) _) ?_
              repeat wtm_at "z"
              simp at h2 ⊢
              omega
            · simp at h2 ⊢
              omega
            · rintro b s11 ⟨rfl, ht, hf⟩
              cases b with
              | true =>
                repeat wtm_at "z"
                have := ht rfl
                rw [cut_init, ← List.map_dropLast]
                refine ⟨ws.dropLast.length, by simp; omega, hs10, ws.dropLast, rfl, by simp; omega, by simp; omega, fun x hx => hws x (List.dropLast_subset ws hx), rfl⟩
              | false =>
                repeat wtm_at "z"
                refine w_of (count_eq _ _ _ _ _ (by omega) (by simp; omega) (by omega) _) ?_
                repeat wtm_at "z"
                rw [List.length_map, List.length_map]
                refine br_join (fun fl s' => s' = s11 ∧ ∃ pat look : Int, (1 ≤ pat ∧ pat ≤ 6) ∧ (1 ≤ look ∧ look ≤ 3) ∧ cntL ws.length room zs'.length pat look ≤ M ∧
                  fl = .nx [.v (.r (.ref a)), .v (.d (.int most)), .v (.d (.int room)), .v (.d (.tuple (zs'.map .int))), .no, .v (.d (.int pat)), .v (.d (.int look)), .v (.d (.int wide)), .v (.d (.list (ws.map .int))), .no, .no, .no]) (fun hc => ?_) (fun hc => ?_) ?_
                · repeat wtm_at "z"
                  have hc := of_decide_eq_true hc
                  have h2 : ws.length = 2 := (hf rfl).resolve_right (by omega)
                  refine ⟨rfl, 1, 1, by decide, by decide, ?_, rfl⟩
                  rw [h2]
                  exact Int.le_trans (cnt_least hr zl') hm
                · repeat wtm_at "z"
                  have hc := of_decide_eq_false hc
                  exact ⟨rfl, pat, look, hp, hl, by omega, rfl⟩
                · clear hf ht hp hl
                  rintro fl s' ⟨rfl, pat', look', hp, hl, hcnt, rfl⟩
                  repeat wtm_at "z"
                  refine one_n [2, 4, 8, 30] hs10 (by omega) (by simp) fun far s12 hfar hs12 => ?_
                  have hf : 2 ≤ far ∧ far ≤ 30 := by simp at hfar; omega
                  repeat wtm_at "z"
                  refine draw_a hs12 (by omega) (by omega) fun b1 s13 b10 b11 hs13 => ?_
                  repeat wtm_at "z"
                  refine draw_a hs13 (by omega) (by omega) fun b2 s14 b20 b21 hs14 => ?_
                  repeat wtm_at "z"
                  exact q ⟨ws, room, zs', 0 - b1, b2, pat', look'⟩ _ ⟨⟨hw2, hw6⟩, hws, hr, zne, zasc, zin, zl', ⟨by show -61 < 0 - b1; omega, by show 0 - b1 ≤ 0; omega⟩, ⟨b20, by show b2 < 61; omega⟩, hp, hl, hcnt⟩ ⟨by show -31 < 0 - b1; omega, by show b2 < 31; omega⟩ (hs14.le (by omega))
        · omega
  · omega
theorem wheel_okM {a : Addr} {most M : Int} (hm : 200 ≤ M) (hmm : most ≤ M) {s : Dk} {k : Int} (hs : Dks a k s) (hk : k < 900000000) {Q : Val → Dk → Prop} (q : ∀ w s', GoodWh M w → Dks a (k + 40) s' → Q (.d w.d) s') :
    W (m__law_wheel [.r (.ref a), .d (.int most)] s) Q := wheel_okB hm hmm hs hk fun w s' h _ => q w s' h
theorem wheel_ok {a : Addr} {most : Int} (hm : 200 ≤ most) {s : Dk} {k : Int} (hs : Dks a k s) (hk : k < 900000000) {Q : Val → Dk → Prop} (q : ∀ w s', GoodWh most w → Dks a (k + 40) s' → Q (.d w.d) s') :
    W (m__law_wheel [.r (.ref a), .d (.int most)] s) Q := wheel_okM hm (Int.le_refl _) hs hk q
theorem boarded_loads_eq (l z : Int) (r zs : List Int) (hl : r.length ≤ 1000) (s : Dk) : m_boarded_loads [.d (iT (l :: r)), .d (iT (z :: zs))] s = .ok (.d (iT ((l + z) :: r))) s := by
  refine w_eq ?_
  unfold m_boarded_loads b_boarded_loads iT
  repeat wtm_at "z"
  · rw [show (1 : Int) = ((1 : Nat) : Int) from rfl, cut_drop _ _ (by simp)]
    exact ⟨rfl, rfl⟩
  · rw [show (1 : Int) = ((1 : Nat) : Int) from rfl, cut_drop _ _ (by simp)]
    have := sizeLine_big
    simp
    omega
/-- a deed's word -/
def deedS (b : Bool) : Str := if b then "board" else "turn"
/-- a stand -/
structure Sd where
  ls : List Int
  ln : List Int
  wt : Int
deriving DecidableEq
def Sd.d (t : Sd) : PyData := .tuple [iT t.ls, iT t.ln, .int t.wt]
/-- a stand in its bounds, but for the lean -/
structure GoodSd (w : Wh) (t : Sd) : Prop where
  n : t.ls.length = w.ws.length
  ls : ∀ x ∈ t.ls, 0 ≤ x ∧ x ≤ w.room
  look : (t.ln.length : Int) = w.look
  ln : ∀ z ∈ t.ln, z ∈ w.sizes
  wt : 0 ≤ t.wt ∧ t.wt ≤ w.pat
def boardL (ls ln : List Int) : List Int := match ls, ln with
  | l :: r, z :: _ => (l + z) :: r
  | _, _ => []
def mayB (w : Wh) (t : Sd) (b : Bool) : Bool := if b then decide ((boardL t.ls t.ln).headD 0 ≤ w.room) && w.up (boardL t.ls t.ln) else decide (t.wt < w.pat) && w.up (turnL t.ls)
theorem bv_eqS {S : Type} {s : S} {Q : Val → S → Prop} {x y : Str} (q : Q (.d (.bool (decide (x = y)))) s) (h : (PyData.strOk x && PyData.strOk y) = true) : BV opEq (.d (.str x)) (.d (.str y)) s Q :=
  bv_eq (by rw [str_eqv]; exact q) (by
    rw [Bool.and_eq_true] at h
    unfold SeqAt.shaped
    simp only [PyData.canLay0, h.1, h.2]
    rfl)
theorem strOk_deed (b : Bool) : PyData.strOk (deedS b) = true := by cases b <;> decide +kernel
theorem deed_board (b : Bool) : decide (deedS b = ("board" : Str)) = b := by cases b <;> decide +kernel
theorem deed_turn (b : Bool) : decide (deedS b = ("turn" : Str)) = !b := by cases b <;> decide +kernel
def deedsB (w : Wh) (t : Sd) : List Bool := [true, false].filter (mayB w t)
theorem may_eq (w : Wh) (t : Sd) (b : Bool) (hw : SmallL w.ws) (hl : t.ls.length ≤ 1000) (h0 : t.ls ≠ []) (h1 : t.ln ≠ []) (s : Dk) : m_may [.d w.d, .d t.d, .d (.str (deedS b))] s = .ok (.d (.bool (mayB w t b))) s := by
  obtain ⟨ls, ln, wt⟩ := t
  cases ls with
  | nil => exact absurd rfl h0
  | cons l r =>
  cases ln with
  | nil => exact absurd rfl h1
  | cons z zs =>
  have hr : r.length ≤ 1000 := by simp at hl; omega
  refine w_eq ?_
  unfold m_may b_may
  dsimp only [Sd.d, iT, List.map]
  repeat wtm_at "z"
  refine w_unp ?_
  repeat wtm_at "z"
  refine ⟨_, _, rfl, rfl, ?_⟩
  simp only [List.set_cons_succ, List.set_cons_zero]
  repeat wtm_at "z"
  refine bv_eqS ?_ (by rw [strOk_deed]; decide +kernel)
  repeat wtm_at "z"
  rw [deed_board]
  cases b with
  | true =>
    repeat wtm_at "z"
    refine br_dec (fun h => ?_) fun h => ?_
    · repeat wtm_at "z"
      refine w_of (boarded_loads_eq l z r zs hr _) ?_
      repeat wtm_at "z"
      refine w_of (is_upright_eq w _ hw _) ?_
      repeat wtm_at "z"
      refine ⟨?_, rfl⟩
      rw [show mayB w ⟨l :: r, z :: zs, wt⟩ true = (decide (l + z ≤ w.room) && w.up ((l + z) :: r)) from rfl, decide_eq_true h]
      rfl
    · repeat wtm_at "z"
      refine ⟨?_, rfl⟩
      rw [show mayB w ⟨l :: r, z :: zs, wt⟩ true = (decide (l + z ≤ w.room) && w.up ((l + z) :: r)) from rfl, decide_eq_false h]
      rfl
  | false =>
    repeat wtm_at "z"
    refine br_dec (fun h => ?_) fun h => ?_
    · repeat wtm_at "z"
      refine w_of (turned_loads_eq _ hl _) ?_
      repeat wtm_at "z"
      refine w_of (is_upright_eq w _ hw _) ?_
      repeat wtm_at "z"
      refine ⟨?_, rfl⟩
      rw [show mayB w ⟨l :: r, z :: zs, wt⟩ false = (decide (wt < w.pat) && w.up (turnL (l :: r))) from rfl, decide_eq_true h]
      rfl
    · repeat wtm_at "z"
      refine ⟨?_, rfl⟩
      rw [show mayB w ⟨l :: r, z :: zs, wt⟩ false = (decide (wt < w.pat) && w.up (turnL (l :: r))) from rfl, decide_eq_false h]
      rfl
theorem llean_eq (w : Wh) (ls : List Int) (hw : SmallL w.ws) (s : Dk) : m__law_lean [.d w.d, .d (iT ls)] s = .ok (.d (.int (dotL w.ws ls))) s := by
  refine w_eq ?_
  unfold m__law_lean b__law_lean Wh.d iT
  repeat wtm_at "z"
  rw [zip_ints]
  refine ⟨by rw [List.length_map, List.length_zip]; have := hw.1; have := sizeLine_big; omega, ?_⟩
  refine lc_mapOf _ (fun p => .int (p.1 * p.2)) _ (fun p hp => item1 rfl ?_) ?_
  · repeat wtm_at "z"
    · exact ⟨_, rfl, rfl, rfl⟩
    · exact .inl (hw.2 _ (List.of_mem_zip hp).1)
  · repeat wtm_at "z"
    refine cv_sum ?_
    repeat wtm_at "z"
    exact ⟨rfl, rfl⟩
def fitB (w : Wh) (ls : List Int) : Bool := decide (maxL ls ≤ w.room) && w.up ls
theorem maxL_le : ∀ (ls : List Int) (r : Int), ls ≠ [] → (maxL ls ≤ r ↔ ∀ x ∈ ls, x ≤ r)
  | [], _, h => absurd rfl h
  | [a], r, _ => by simp [maxL]
  | a :: b :: l, r, _ => by
    have ih := maxL_le (b :: l) r (by simp)
    show max a (maxL (b :: l)) ≤ r ↔ _
    rw [Int.max_le, ih]
    simp
theorem fits_eq (w : Wh) (ls : List Int) (hw : SmallL w.ws) (hl : ls.length ≤ 1000) (h0 : ls ≠ []) (s : Dk) : m__law_fits [.d w.d, .d (iT ls)] s = .ok (.d (.bool (fitB w ls))) s := by
  refine w_eq ?_
  unfold m__law_fits b__law_fits
  repeat wtm_at "z"
  refine ⟨by rw [List.length_map]; have := sizeLine_big; omega, ?_⟩
  refine lc_mapOf _ (fun l => .int l) _ (fun l _ => item1 rfl ?_) ?_
  · repeat wtm_at "z"
    exact ⟨_, rfl, rfl, rfl⟩
  repeat wtm_at "z"
  refine cv_max ?_ h0
  repeat wtm_at "z"
  rw [List.map_id']
  refine br_dec (fun h => ?_) fun h => ?_
  · have h : w.room < maxL ls := h
    repeat wtm_at "z"
    refine ⟨?_, rfl⟩
    rw [show fitB w ls = (decide (maxL ls ≤ w.room) && w.up ls) from rfl, decide_eq_false (by omega)]
    rfl
  · have h : ¬ w.room < maxL ls := h
    repeat wtm_at "z"
    refine w_of (llean_eq w ls hw _) ?_
    repeat wtm_at "z"
    have e : fitB w ls = (decide (w.lo ≤ dotL w.ws ls) && decide (dotL w.ws ls ≤ w.hi)) := by
      unfold fitB Wh.up
      rw [decide_eq_true (by omega : maxL ls ≤ w.room), Bool.true_and]
    rw [e]
    refine br_dec (fun h => ?_) fun h => ?_
    · repeat wtm_at "z"
      rw [decide_eq_true (show w.lo ≤ dotL w.ws ls from h)]
      exact ⟨rfl, rfl⟩
    · repeat wtm_at "z"
      rw [decide_eq_false (show ¬ w.lo ≤ dotL w.ws ls from h)]
      exact ⟨rfl, rfl⟩
/-- all rows of so many of the items -/
def rowsL (items : List Int) : Nat → List (List Int)
  | 0 => [[]]
  | n + 1 => (rowsL items n).flatMap fun row => items.map fun i => row ++ [i]
theorem rowsL_len (items : List Int) : ∀ n, (rowsL items n).length = items.length ^ n
  | 0 => rfl
  | n + 1 => by
    rw [rowsL, List.length_flatMap, List.map_congr_left (g := fun _ => items.length) (fun a _ => by simp), List.map_const', List.sum_replicate_nat, rowsL_len items n, Nat.pow_succ]
theorem rowsL_mem (items : List Int) : ∀ n row, row ∈ rowsL items n → row.length = n ∧ ∀ x ∈ row, x ∈ items
  | 0, row, h => by
    rw [rowsL, List.mem_singleton] at h
    rw [h]
    exact ⟨rfl, fun x hx => by cases hx⟩
  | n + 1, row, h => by
    rw [rowsL, List.mem_flatMap] at h
    obtain ⟨r, hr, h⟩ := h
    obtain ⟨i, hi, rfl⟩ := List.mem_map.mp h
    obtain ⟨h1, h2⟩ := rowsL_mem items n r hr
    refine ⟨by simp [h1], fun x hx => ?_⟩
    rcases List.mem_append.mp hx with m | m
    · exact h2 x m
    · rw [List.mem_singleton.mp m]; exact hi
theorem rowsL_small {items : List Int} {n : Nat} (hz : items.length ≤ 4) (hn : n ≤ 3) : (rowsL items n).length ≤ 64 := by
  rw [rowsL_len]
  exact Nat.le_trans (Nat.pow_le_pow_left hz n) (Nat.pow_le_pow_right (by decide) hn)
theorem lrows_eq (items : List Int) (many : Nat) (hz : items.length ≤ 4) (hn : many ≤ 3) (s : Dk) : m__law_rows [.d (iT items), .d (.int many)] s = .ok (.d (.list ((rowsL items many).map iT))) s := by
  refine w_eq ?_
  unfold m__law_rows b__law_rows
  repeat wtm_at "z"
  · refine for_inv (fun n ρ s' => s' = s ∧ ∃ x3 x4 x5 x6, ρ = [.v (.d (iT items)), .v (.d (.int many)), .l ((rowsL items n).map iT), x3, x4, x5, x6]) (rngD 0 (many : Int).toNat) 0 ⟨rfl, .no, .no, .no, .no, rfl⟩ ?_ ?_
    · rintro n d hd ρ s' ⟨rfl, x3, x4, x5, x6, rfl⟩
      have hn' : n < (many : Int).toNat := (rng_at hd).1
      rw [Nat.zero_add]
      refine ⟨_, rfl, ?_⟩
      simp only [List.set_cons_succ, List.set_cons_zero]
      repeat wtm_at "z"
      have hlen : ∀ p post : List (List Int), rowsL items n = p ++ post → (p.flatMap fun row => items.map fun i => row ++ [i]).length ≤ 256 := fun p post e => by
        have h1 : p.length ≤ 64 := Nat.le_trans (by rw [e]; simp) (rowsL_small (n := n) hz (by omega))
        rw [List.length_flatMap, List.map_congr_left (g := fun _ => items.length) (fun a _ => by simp), List.map_const', List.sum_replicate_nat]
        exact Nat.le_trans (Nat.mul_le_mul h1 hz) (by decide)
      refine for_pre iT (fun p ρ s1 => s1 = s' ∧ ∃ x5 x6, ρ = [.v (.d (iT items)), .v (.d (.int many)), .v (.d (.list ((rowsL items n).map iT))), .v (.d d), .l ((p.flatMap fun row => items.map fun i => row ++ [i]).map iT), x5, x6]) (rowsL items n) ⟨rfl, x5, x6, rfl⟩ ?_ ?_
      · rintro p row post ep ρ s1 ⟨rfl, x5, x6, rfl⟩
        refine ⟨_, rfl, ?_⟩
        simp only [List.set_cons_succ, List.set_cons_zero]
        have hrow : row.length ≤ 3 := by
          have := (rowsL_mem items n row (by rw [ep]; simp)).1
          omega
        repeat wtm_at "z"
        refine ⟨by rw [List.length_map]; have := sizeLine_big; omega, ?_⟩
        refine lc_mapOf _ (fun i => iT (row ++ [i])) _ (fun i _ => item1 rfl ?_) ?_
        · repeat wtm_at "z"
          · exact ⟨_, rfl, by unfold iT; rw [List.map_append]; rfl, rfl⟩
          · have := sizeLine_big
            simp
            omega
        · repeat wtm_at "z"
          refine ⟨_, rfl, ?_, ?_⟩
          · have := hlen p (row :: post) ep
            have := sizeLine_big
            simp only [List.length_map] at *
            omega
          · repeat wtm_at "z"
            refine ⟨rfl, .v (.d (iT row)), x6, ?_⟩
            rw [List.flatMap_append, List.map_append, List.flatMap_singleton, List.map_map]
            rfl
      · rintro ρ s1 ⟨rfl, x5, x6, rfl⟩
        repeat wtm_at "z"
        exact ⟨rfl, _, _, _, _, rfl⟩
    · rintro ρ s1 ⟨rfl, x3, x4, x5, x6, rfl⟩
      rw [rng_len]
      repeat wtm_at "z"
      refine ⟨?_, rfl⟩
      rw [Nat.zero_add]
      rfl
  · omega
def startsL (w : Wh) : List Sd := (rowsL w.sizes w.look.toNat).map fun r => ⟨List.replicate w.ws.length 0, r, 0⟩
theorem lstarts_eq (w : Wh) {most : Int} (hw : GoodWh most w) (s : Dk) : m__law_starts [.d w.d] s = .ok (.d (.list ((startsL w).map Sd.d))) s := by
  refine w_eq ?_
  have hlk := hw.look
  have hn := hw.n
  unfold m__law_starts b__law_starts
  repeat wtm_at "z"
  have e := lrows_eq w.sizes w.look.toNat hw.zl (by omega) s
  rw [show ((w.look.toNat : Nat) : Int) = w.look by omega] at e
  refine w_of e ?_
  repeat wtm_at "z"
  refine ⟨by rw [List.length_map]; have := sizeLine_big; have := rowsL_small (n := w.look.toNat) hw.zl (by omega); omega, ?_⟩
  refine lc_mapOf _ (fun r => Sd.d ⟨List.replicate w.ws.length 0, r, 0⟩) _ (fun r _ => item1 rfl ?_) ?_
  · repeat wtm_at "z"
    · refine ⟨_, rfl, ?_, rfl⟩
      rw [rep0, show ((w.ws.map PyData.int).length : Int).toNat = w.ws.length by simp]
      rfl
    · simp; omega
  · repeat wtm_at "z"
    refine ⟨?_, rfl⟩
    unfold startsL
    rw [List.map_map]
    rfl
theorem starts_good (w : Wh) {most : Int} (hw : GoodWh most w) : ∀ t ∈ startsL w, GoodSd w t := by
  intro t ht
  obtain ⟨r, hr, rfl⟩ := List.mem_map.mp ht
  have hlk := hw.look
  have hp := hw.pat
  have hro := hw.room
  obtain ⟨h1, h2⟩ := rowsL_mem _ _ _ hr
  exact ⟨by simp, fun x hx => by have := (List.mem_replicate.mp hx).2; omega, by show (r.length : Int) = _; omega, h2, ⟨Int.le_refl _, by show (0 : Int) ≤ w.pat; omega⟩⟩
theorem starts_ne (w : Wh) {most : Int} (hw : GoodWh most w) : 0 < (startsL w).length ∧ (startsL w).length ≤ 64 := by
  have hlk := hw.look
  unfold startsL
  rw [List.length_map]
  refine ⟨?_, rowsL_small hw.zl (by omega)⟩
  rw [rowsL_len]
  have : 0 < w.sizes.length := List.length_pos_iff.mpr hw.ne
  exact Nat.pow_pos this
theorem rows_eq (items : List Int) (many : Nat) (hz : items.length ≤ 4) (hn : many ≤ 3) (s : Dk) : m_rows_of [.d (iT items), .d (.int many)] s = .ok (.d (.list ((rowsL items many).map iT))) s := by
  refine w_eq ?_
  unfold m_rows_of b_rows_of
  repeat wtm_at "z"
  · refine for_inv (fun n ρ s' => s' = s ∧ ∃ x3 x4 x5 x6, ρ = [.v (.d (iT items)), .v (.d (.int many)), .l ((rowsL items n).map iT), x3, x4, x5, x6]) (rngD 0 (many : Int).toNat) 0 ⟨rfl, .no, .no, .no, .no, rfl⟩ ?_ ?_
    · rintro n d hd ρ s' ⟨rfl, x3, x4, x5, x6, rfl⟩
      have hn' : n < (many : Int).toNat := (rng_at hd).1
      rw [Nat.zero_add]
      refine ⟨_, rfl, ?_⟩
      simp only [List.set_cons_succ, List.set_cons_zero]
      repeat wtm_at "z"
      have hlen : ∀ p post : List (List Int), rowsL items n = p ++ post → (p.flatMap fun row => items.map fun i => row ++ [i]).length ≤ 256 := fun p post e => by
        have h1 : p.length ≤ 64 := Nat.le_trans (by rw [e]; simp) (rowsL_small (n := n) hz (by omega))
        rw [List.length_flatMap, List.map_congr_left (g := fun _ => items.length) (fun a _ => by simp), List.map_const', List.sum_replicate_nat]
        exact Nat.le_trans (Nat.mul_le_mul h1 hz) (by decide)
      refine for_pre iT (fun p ρ s1 => s1 = s' ∧ ∃ x5 x6, ρ = [.v (.d (iT items)), .v (.d (.int many)), .v (.d (.list ((rowsL items n).map iT))), .v (.d d), .l ((p.flatMap fun row => items.map fun i => row ++ [i]).map iT), x5, x6]) (rowsL items n) ⟨rfl, x5, x6, rfl⟩ ?_ ?_
      · rintro p row post ep ρ s1 ⟨rfl, x5, x6, rfl⟩
        refine ⟨_, rfl, ?_⟩
        simp only [List.set_cons_succ, List.set_cons_zero]
        have hrow : row.length ≤ 3 := by
          have := (rowsL_mem items n row (by rw [ep]; simp)).1
          omega
        repeat wtm_at "z"
        refine ⟨by rw [List.length_map]; have := sizeLine_big; omega, ?_⟩
        refine lc_mapOf _ (fun i => iT (row ++ [i])) _ (fun i _ => item1 rfl ?_) ?_
        · repeat wtm_at "z"
          · exact ⟨_, rfl, by unfold iT; rw [List.map_append]; rfl, rfl⟩
          · have := sizeLine_big
            simp
            omega
        · repeat wtm_at "z"
          refine ⟨_, rfl, ?_, ?_⟩
          · have := hlen p (row :: post) ep
            have := sizeLine_big
            simp only [List.length_map] at *
            omega
          · repeat wtm_at "z"
            refine ⟨rfl, .v (.d (iT row)), x6, ?_⟩
            rw [List.flatMap_append, List.map_append, List.flatMap_singleton, List.map_map]
            rfl
      · rintro ρ s1 ⟨rfl, x5, x6, rfl⟩
        repeat wtm_at "z"
        exact ⟨rfl, _, _, _, _, rfl⟩
    · rintro ρ s1 ⟨rfl, x3, x4, x5, x6, rfl⟩
      rw [rng_len]
      repeat wtm_at "z"
      refine ⟨?_, rfl⟩
      rw [Nat.zero_add]
      rfl
  · omega
theorem lines_eq (w : Wh) {most : Int} (hw : GoodWh most w) (s : Dk) : m_lines [.d w.d] s = .ok (.d (.list ((rowsL w.sizes w.look.toNat).map iT))) s := by
  refine w_eq ?_
  have hlk := hw.look
  unfold m_lines b_lines
  repeat wtm_at "z"
  have e := rows_eq w.sizes w.look.toNat hw.zl (by omega) s
  rw [show ((w.look.toNat : Nat) : Int) = w.look by omega] at e
  refine w_of e ?_
  repeat wtm_at "z"
  exact ⟨rfl, rfl⟩
theorem starts_eq (w : Wh) {most : Int} (hw : GoodWh most w) (s : Dk) : m_starts [.d w.d] s = .ok (.d (.tuple ((startsL w).map Sd.d))) s := by
  refine w_eq ?_
  have hlk := hw.look
  have hn := hw.n
  have sz := sizeLine_big
  unfold m_starts b_starts
  repeat wtm_at "z"
  refine w_of (lines_eq w hw _) ?_
  repeat wtm_at "z"
  refine ⟨by rw [List.length_map]; have := rowsL_small (n := w.look.toNat) hw.zl (by omega); omega, ?_⟩
  refine lc_mapOf _ (fun r => Sd.d ⟨List.replicate w.ws.length 0, r, 0⟩) _ (fun r _ => item1 rfl ?_) ?_
  · repeat wtm_at "z"
    · refine ⟨_, rfl, ?_, rfl⟩
      rw [rep0, show ((w.ws.map PyData.int).length : Int).toNat = w.ws.length by simp]
      rfl
    · exact ⟨by rw [List.length_map]; omega, by rw [List.length_map]; omega, (by decide : 1 ≤ 1000)⟩
  · repeat wtm_at "z"
    refine ⟨?_, rfl⟩
    unfold startsL
    rw [List.map_map]
    rfl
/-- rows by their places: rising -/
theorem lt_snoc {xs ys : List Int} {a b : Int} : xs.length = ys.length → xs < ys → xs ++ [a] < ys ++ [b] := by
  intro hl h
  induction xs generalizing ys with
  | nil =>
    cases ys with
    | nil => exact absurd h (by simp)
    | cons y ys => simp at hl
  | cons x xs ih =>
    cases ys with
    | nil => simp at hl
    | cons y ys =>
      simp only [List.cons_append]
      rw [List.cons_lt_cons_iff] at h ⊢
      rcases h with h | ⟨h1, h2⟩
      · exact .inl h
      · exact .inr ⟨h1, ih (by simpa using hl) h2⟩
theorem lt_last {xs : List Int} {a b : Int} (h : a < b) : xs ++ [a] < xs ++ [b] := by
  induction xs with
  | nil => simp only [List.nil_append]; rw [List.cons_lt_cons_iff]; exact .inl h
  | cons x xs ih =>
    simp only [List.cons_append]
    rw [List.cons_lt_cons_iff]
    exact .inr ⟨rfl, ih⟩
theorem rows_asc {items : List Int} (h : items.Pairwise (· < ·)) : ∀ n, (rowsL items n).Pairwise (· < ·)
  | 0 => by simp [rowsL]
  | n + 1 => by
    rw [rowsL, List.pairwise_flatMap]
    refine ⟨fun r _ => ?_, ?_⟩
    · rw [List.pairwise_map]
      exact h.imp fun hab => lt_last hab
    · refine List.Pairwise.imp_of_mem (fun {r r'} hr hr' hlt => ?_) (rows_asc h n)
      intro x hx y hy
      obtain ⟨i, _, rfl⟩ := List.mem_map.mp hx
      obtain ⟨j, _, rfl⟩ := List.mem_map.mp hy
      exact lt_snoc (by rw [(rowsL_mem items n r hr).1, (rowsL_mem items n r' hr').1]) hlt
/-- where a deed leads -/
def behindL (w : Wh) (t : Sd) (b : Bool) : List Sd := if b then (if fitB w (boardL t.ls t.ln) then w.sizes.map fun z => ⟨boardL t.ls t.ln, t.ln.drop 1 ++ [z], 0⟩ else [])
  else if decide (t.wt < w.pat) && fitB w (turnL t.ls) then [⟨turnL t.ls, t.ln, t.wt + 1⟩] else []
theorem behind_eq (w : Wh) (t : Sd) (b : Bool) (hw : SmallL w.ws) (hz : w.sizes.length ≤ 1000) (hl : t.ls.length ≤ 1000) (hl2 : t.ln.length ≤ 1000) (h0 : t.ls ≠ []) (h1 : t.ln ≠ []) (s : Dk) : m__law_behind [.d w.d, .d t.d, .d (.str (deedS b))] s = .ok (.d (.tuple ((behindL w t b).map Sd.d))) s := by
  obtain ⟨ls, ln, wt⟩ := t
  cases ls with
  | nil => exact absurd rfl h0
  | cons l r =>
  cases ln with
  | nil => exact absurd rfl h1
  | cons z zs =>
  have hr : r.length ≤ 1000 := by simp at hl; omega
  have hzs : zs.length ≤ 1000 := by simp at hl2; omega
  have e1 : cutL (PyData.int l :: r.map PyData.int) none (some (-1)) = (l :: r).dropLast.map PyData.int := by
    rw [cut_init, List.map_dropLast]; rfl
  have e2 : cutL (PyData.int l :: r.map PyData.int) (some 1) none = r.map PyData.int := by
    rw [show (1 : Int) = ((1 : Nat) : Int) from rfl, cut_drop _ _ (by simp)]; rfl
  have e3 : cutL (PyData.int z :: zs.map PyData.int) (some 1) none = zs.map PyData.int := by
    rw [show (1 : Int) = ((1 : Nat) : Int) from rfl, cut_drop _ _ (by simp)]; rfl
  refine w_eq ?_
  unfold m__law_behind b__law_behind
  dsimp only [Sd.d, iT, List.map]
  repeat wtm_at "z"
  refine w_unp ?_
  repeat wtm_at "z"
  refine ⟨_, _, rfl, rfl, ?_⟩
  simp only [List.set_cons_succ, List.set_cons_zero]
  repeat wtm_at "z"
  refine bv_eqS ?_ (by rw [strOk_deed]; decide +kernel)
  repeat wtm_at "z"
  rw [deed_turn]
  cases b with
  | false =>
    simp only [Bool.not_false]
    repeat wtm_at "z"
    · rw [e1]
      repeat wtm_at "z"
      refine br_dec (fun h => ?_) fun h => ?_
      · have h : wt < w.pat := h
        repeat wtm_at "z"
        refine w_of (fits_eq w (turnL (l :: r)) hw (by unfold turnL; simp at hl ⊢; omega) (by unfold turnL; simp) _) ?_
        repeat wtm_at "z"
        have eb : behindL w ⟨l :: r, z :: zs, wt⟩ false = if fitB w (turnL (l :: r)) then [⟨turnL (l :: r), z :: zs, wt + 1⟩] else [] := by
          show (if decide (wt < w.pat) && fitB w (turnL (l :: r)) then _ else _) = _
          rw [decide_eq_true h, Bool.true_and]
        rw [eb]
        refine br (fun h => ?_) fun h => ?_
        · repeat wtm_at "z"
          rw [h]
          exact ⟨rfl, rfl⟩
        · repeat wtm_at "z"
          rw [h]
          exact ⟨rfl, rfl⟩
      · have h : ¬ wt < w.pat := h
        repeat wtm_at "z"
        have eb : behindL w ⟨l :: r, z :: zs, wt⟩ false = [] := by
          show (if decide (wt < w.pat) && fitB w (turnL (l :: r)) then _ else _) = _
          rw [decide_eq_false h]
          rfl
        rw [eb]
        exact ⟨rfl, rfl⟩
    · rw [e1]
      have := sizeLine_big
      simp at hl ⊢
      omega
  | true =>
    simp only [Bool.not_true]
    repeat wtm_at "z"
    · rw [e2]
      repeat wtm_at "z"
      refine w_of (fits_eq w ((l + z) :: r) hw (by simp at hl ⊢; omega) (by simp) _) ?_
      repeat wtm_at "z"
      have eb : behindL w ⟨l :: r, z :: zs, wt⟩ true = if fitB w ((l + z) :: r) then w.sizes.map fun y => ⟨(l + z) :: r, zs ++ [y], 0⟩ else [] := rfl
      rw [eb]
      refine br (fun h => ?_) fun h => ?_
      · have h : fitB w ((l + z) :: r) = false := by simpa using h
        repeat wtm_at "z"
        rw [h]
        exact ⟨rfl, rfl⟩
      · have h : fitB w ((l + z) :: r) = true := by simpa using h
        repeat wtm_at "z"
        refine ⟨by rw [List.length_map]; have := sizeLine_big; omega, ?_⟩
        refine lc_mapOf _ (fun y => Sd.d ⟨(l + z) :: r, zs ++ [y], 0⟩) _ (fun y _ => item1 rfl ?_) ?_
        · repeat wtm_at "z"
          · rw [e3]
            refine ⟨_, rfl, ?_, rfl⟩
            unfold Sd.d iT
            rw [List.map_append]
            rfl
          · rw [e3]
            have := sizeLine_big
            simp
            omega
        · repeat wtm_at "z"
          refine ⟨?_, rfl⟩
          rw [if_pos h, List.map_map]
          rfl
    · rw [e2]
      have := sizeLine_big
      simp
      omega
theorem behind_good (w : Wh) (t : Sd) (b : Bool) {most : Int} (hw : GoodWh most w) (ht : GoodSd w t) : ∀ t' ∈ behindL w t b, GoodSd w t' := by
  obtain ⟨ls, ln, wt⟩ := t
  obtain ⟨hn, hls, hlk, hln, hwt⟩ := ht
  have hwn := hw.n
  have hwl := hw.look
  have hwp := hw.pat
  have hwr := hw.room
  simp only at hn hls hlk hln hwt
  cases ls with
  | nil => simp at hn; omega
  | cons l r =>
  cases ln with
  | nil => simp at hlk; omega
  | cons z zs =>
  intro t' m
  cases b with
  | true =>
    have m : t' ∈ (if fitB w ((l + z) :: r) then w.sizes.map fun y => (⟨(l + z) :: r, zs ++ [y], 0⟩ : Sd) else []) := m
    by_cases h : fitB w ((l + z) :: r) = true
    · rw [if_pos h] at m
      obtain ⟨y, hy, rfl⟩ := List.mem_map.mp m
      have hz := hw.zs z (hln z (.head _))
      have hl := hls l (.head _)
      have h : maxL ((l + z) :: r) ≤ w.room := by
        unfold fitB at h
        rw [Bool.and_eq_true] at h
        exact of_decide_eq_true h.1
      have h := (maxL_le _ _ (by simp)).mp h
      refine ⟨by simpa using hn, fun x hx => ⟨?_, h x hx⟩, by simpa using hlk, fun x hx => ?_, ⟨Int.le_refl _, by show (0 : Int) ≤ w.pat; omega⟩⟩
      · rcases List.mem_cons.mp hx with rfl | hx
        · omega
        · exact (hls x (.tail _ hx)).1
      · rcases List.mem_append.mp hx with hx | hx
        · exact hln x (.tail _ hx)
        · rw [List.mem_singleton.mp hx]; exact hy
    · rw [if_neg h] at m
      cases m
  | false =>
    have m : t' ∈ (if decide (wt < w.pat) && fitB w (turnL (l :: r)) then [(⟨turnL (l :: r), z :: zs, wt + 1⟩ : Sd)] else []) := m
    split at m
    · rename_i h
      rw [Bool.and_eq_true] at h
      have h := of_decide_eq_true h.1
      rw [List.mem_singleton.mp m]
      refine ⟨by unfold turnL; simpa using hn, fun x hx => ?_, hlk, hln, ⟨by show 0 ≤ wt + 1; omega, by show wt + 1 ≤ w.pat; omega⟩⟩
      rcases List.mem_cons.mp hx with rfl | hx
      · exact ⟨Int.le_refl _, by omega⟩
      · exact hls x (List.dropLast_subset _ hx)
    · cases m
theorem behind_may (w : Wh) (t : Sd) (b : Bool) {most : Int} (hw : GoodWh most w) (ht : GoodSd w t) : (behindL w t b).isEmpty = !mayB w t b := by
  obtain ⟨ls, ln, wt⟩ := t
  obtain ⟨hn, hls, hlk, hln, hwt⟩ := ht
  have hwn := hw.n
  have hwl := hw.look
  have hwr := hw.room
  simp only at hn hls hlk hln hwt
  cases ls with
  | nil => simp at hn; omega
  | cons l r =>
  cases ln with
  | nil => simp at hlk; omega
  | cons z zs =>
  cases b with
  | true =>
    show (if fitB w ((l + z) :: r) then w.sizes.map fun y => (⟨(l + z) :: r, zs ++ [y], 0⟩ : Sd) else []).isEmpty = !(decide (l + z ≤ w.room) && w.up ((l + z) :: r))
    have e : fitB w ((l + z) :: r) = (decide (l + z ≤ w.room) && w.up ((l + z) :: r)) := by
      unfold fitB
      congr 1
      refine decide_eq_decide.mpr ?_
      rw [maxL_le _ _ (by simp)]
      exact ⟨fun h => h _ (.head _), fun h x hx => by
        rcases List.mem_cons.mp hx with rfl | hx
        · exact h
        · exact (hls x (.tail _ hx)).2⟩
    rw [e]
    cases (decide (l + z ≤ w.room) && w.up ((l + z) :: r)) with
    | false => rfl
    | true =>
      cases hs : w.sizes with
      | nil => exact absurd hs hw.ne
      | cons a b => rfl
  | false =>
    show (if decide (wt < w.pat) && fitB w (turnL (l :: r)) then [(⟨turnL (l :: r), z :: zs, wt + 1⟩ : Sd)] else []).isEmpty = !(decide (wt < w.pat) && w.up (turnL (l :: r)))
    have e : fitB w (turnL (l :: r)) = w.up (turnL (l :: r)) := by
      unfold fitB
      rw [decide_eq_true, Bool.true_and]
      rw [maxL_le _ _ (by unfold turnL; simp)]
      intro x hx
      rcases List.mem_cons.mp hx with rfl | hx
      · omega
      · exact (hls x (List.dropLast_subset _ hx)).2
    rw [e]
    cases (decide (wt < w.pat) && w.up (turnL (l :: r))) <;> rfl
theorem behind_len (w : Wh) (t : Sd) (b : Bool) {most : Int} (hw : GoodWh most w) : (behindL w t b).length ≤ 4 := by
  have hzl := hw.zl
  cases b with
  | true =>
    show (if fitB w (boardL t.ls t.ln) then w.sizes.map fun z => (⟨boardL t.ls t.ln, t.ln.drop 1 ++ [z], 0⟩ : Sd) else []).length ≤ 4
    split
    · rw [List.length_map]; exact hzl
    · exact Nat.zero_le _
  | false =>
    show (if decide (t.wt < w.pat) && fitB w (turnL t.ls) then [(⟨turnL t.ls, t.ln, t.wt + 1⟩ : Sd)] else []).length ≤ 4
    split
    · exact (by decide : 1 ≤ 4)
    · exact Nat.zero_le _
theorem sm_sd {w : Wh} {t : Sd} {most : Int} (hw : GoodWh most w) (h : GoodSd w t) : Sm 2 12 t.d := by
  have h1 := hw.n
  have h2 := hw.look
  have h3 := h.n
  have h4 := h.look
  have h5 := hw.room
  have h6 := hw.pat
  have h7 := h.wt
  have s1 : Sm 1 6 (iT t.ls) := (sm_iT fun n m => by have := h.ls n m; omega).le (Nat.le_refl _) (by omega)
  have s2 : Sm 1 3 (iT t.ln) := (sm_iT fun n m => by have := hw.zs n (h.ln n m); omega).le (Nat.le_refl _) (by omega)
  have i1 : Sm 0 0 (.int t.wt) := sm_int (by omega)
  exact (sm_tuple (sl_cons s1 (sl_cons s2 (sl_cons (i1.le (Nat.zero_le 1) (Nat.zero_le 0)) sl_nil)))).le (by decide) (by decide)
theorem sm_deed (b : Bool) : Sm 0 5 (.str (deedS b)) := by
  have h := sm_str (cp_of (strOk_deed b))
  exact h.le (Nat.le_refl _) (by cases b <;> decide +kernel)
theorem sm_behind {w : Wh} {t : Sd} (b : Bool) {most : Int} (hw : GoodWh most w) (hg : GoodSd w t) : Sm 3 100 (.tuple ((behindL w t b).map Sd.d)) :=
  sm_tuple ((sl_all (k := 2) (b := 12) _ fun d hd => by
    obtain ⟨t', ht', rfl⟩ := List.mem_map.mp hd
    exact sm_sd hw (behind_good w t b hw hg t' ht')).le (Nat.le_refl _) (by have := behind_len w t b hw; rw [List.length_map]; omega))
theorem GoodSd.ne {w : Wh} {t : Sd} {most : Int} (hw : GoodWh most w) (h : GoodSd w t) : t.ls ≠ [] ∧ t.ln ≠ [] ∧ t.ls.length ≤ 6 ∧ t.ln.length ≤ 3 := by
  have h1 := hw.n
  have h2 := hw.look
  have h3 := h.n
  have h4 := h.look
  refine ⟨fun e => ?_, fun e => ?_, by omega, by omega⟩
  · rw [e] at h3; simp at h3; omega
  · rw [e] at h4; simp at h4; omega
def afterL (t : Sd) (b : Bool) (z : Int) : Sd := if b then ⟨boardL t.ls t.ln, t.ln.drop 1 ++ [z], 0⟩ else ⟨turnL t.ls, t.ln, t.wt + 1⟩
theorem after_eq (w : Wh) (t : Sd) (b : Bool) (y : Int) (hl : t.ls.length ≤ 1000) (hl2 : t.ln.length ≤ 1000) (h0 : t.ls ≠ []) (h1 : t.ln ≠ []) (s : Dk) : m_after [.d w.d, .d t.d, .d (.str (deedS b)), .d (.int y)] s = .ok (.d (afterL t b y).d) s := by
  obtain ⟨ls, ln, wt⟩ := t
  cases ls with
  | nil => exact absurd rfl h0
  | cons l r =>
  cases ln with
  | nil => exact absurd rfl h1
  | cons z zs =>
  have hr : r.length ≤ 1000 := by simp at hl; omega
  have hzs : zs.length ≤ 1000 := by simp at hl2; omega
  have e3 : cutL (PyData.int z :: zs.map PyData.int) (some 1) none = zs.map PyData.int := by
    rw [show (1 : Int) = ((1 : Nat) : Int) from rfl, cut_drop _ _ (by simp)]; rfl
  refine w_eq ?_
  unfold m_after b_after
  dsimp only [Sd.d, iT, List.map]
  repeat wtm_at "z"
  refine w_unp ?_
  repeat wtm_at "z"
  refine ⟨_, _, rfl, rfl, ?_⟩
  simp only [List.set_cons_succ, List.set_cons_zero]
  repeat wtm_at "z"
  refine bv_eqS ?_ (by rw [strOk_deed]; decide +kernel)
  repeat wtm_at "z"
  rw [deed_board]
  cases b with
  | true =>
    repeat wtm_at "z"
    refine w_of (boarded_loads_eq l z r zs hr _) ?_
    repeat wtm_at "z"
    · rw [e3]
      refine ⟨?_, rfl⟩
      show _ = Val.d (Sd.d ⟨(l + z) :: r, zs ++ [y], 0⟩)
      unfold Sd.d iT
      simp
    · rw [e3]
      have := sizeLine_big
      simp
      omega
  | false =>
    repeat wtm_at "z"
    refine w_of (turned_loads_eq _ hl _) ?_
    repeat wtm_at "z"
    exact ⟨rfl, rfl⟩
/-- what a stand is -/
structure IsSd (w : Wh) (t : Sd) : Prop where
  ls : ∀ n ∈ t.ls, 0 ≤ n ∧ n ≤ w.room
  n : t.ls.length = w.ws.length
  up : w.up t.ls = true
  ln : ∀ n ∈ t.ln, 1 ≤ n ∧ n ≤ w.room
  look : (t.ln.length : Int) = w.look
  zs : ∀ n ∈ t.ln, n ∈ w.sizes
  wt : 0 ≤ t.wt ∧ t.wt ≤ w.pat
/-- all stands to which a deed can lead -/
def allL (w : Wh) (t : Sd) (b : Bool) : List Sd := if b then w.sizes.map (afterL t true) else [afterL t false 0]
theorem behind_all {w : Wh} {t : Sd} {b : Bool} (h : behindL w t b ≠ []) : behindL w t b = allL w t b := by
  unfold behindL at h ⊢
  unfold allL
  cases b with
  | true =>
    simp only [if_true] at h ⊢
    split
    · rfl
    · rename_i hf
      rw [if_neg hf] at h
      exact absurd rfl h
  | false =>
    simp only [Bool.false_eq_true, if_false] at h ⊢
    split
    · rfl
    · rename_i hf
      rw [if_neg hf] at h
      exact absurd rfl h
theorem dot_zero : ∀ (ws : List Int) (n : Nat), dotL ws (List.replicate n 0) = 0
  | [], _ => rfl
  | w :: ws, 0 => by simp [dotL]
  | w :: ws, n + 1 => by
    have ih := dot_zero ws n
    unfold dotL at ih ⊢
    rw [List.replicate_succ, List.zip_cons_cons, List.map_cons, List.sum_cons, ih]
    simp
theorem starts_up (w : Wh) {most : Int} (hw : GoodWh most w) : ∀ t ∈ startsL w, w.up t.ls = true := by
  intro t ht
  obtain ⟨r, hr, rfl⟩ := List.mem_map.mp ht
  show (decide (w.lo ≤ dotL w.ws (List.replicate w.ws.length 0)) && decide (dotL w.ws (List.replicate w.ws.length 0) ≤ w.hi)) = true
  rw [dot_zero, decide_eq_true hw.lo.2, decide_eq_true hw.hi.1]
  rfl
mutual
/-- the numbers in it are at most so great -/
def intsB (M : Nat) : PyData → Bool
  | .int i => decide (i.natAbs ≤ M)
  | .list xs => intsBAll M xs
  | .tuple xs => intsBAll M xs
  | .dict _ => false
  | _ => true
def intsBAll (M : Nat) : List PyData → Bool
  | [] => true
  | x :: xs => intsB M x && intsBAll M xs
end
/-- data: numbers at most M, nesting at most k, bulk at most b -/
structure Fit (M k b : Nat) (d : PyData) : Prop where
  lay : d.canLay0 = true
  ib : intsB M d = true
  dp : d.depth ≤ k
  bk : d.bulk ≤ b
structure FitL (M k b : Nat) (d : List PyData) : Prop where
  lay : PyData.canLayAll0 d = true
  ib : intsBAll M d = true
  dp : PyData.depthAll d ≤ k
  bk : PyData.bulkAll d ≤ b
mutual
theorem intsB_mono {M M' : Nat} (hM : M ≤ M') : ∀ d : PyData, intsB M d = true → intsB M' d = true
  | .none, _ => rfl
  | .bool _, _ => rfl
  | .str _, _ => rfl
  | .int i, h => by
    have h : i.natAbs ≤ M := of_decide_eq_true (by simpa only [intsB] using h)
    simp only [intsB]
    exact decide_eq_true (Nat.le_trans h hM)
  | .list xs, h => by
    simp only [intsB]
    exact intsBAll_mono hM xs (by simpa only [intsB] using h)
  | .tuple xs, h => by
    simp only [intsB]
    exact intsBAll_mono hM xs (by simpa only [intsB] using h)
  | .dict _, h => by simp only [intsB] at h; cases h
theorem intsBAll_mono {M M' : Nat} (hM : M ≤ M') : ∀ d : List PyData, intsBAll M d = true → intsBAll M' d = true
  | [], _ => rfl
  | x :: xs, h => by
    have h' : intsB M x = true ∧ intsBAll M xs = true := by simpa only [intsBAll, Bool.and_eq_true] using h
    simp only [intsBAll, intsB_mono hM x h'.1, intsBAll_mono hM xs h'.2, Bool.and_self]
end
theorem Fit.le {M k b M' k' b' : Nat} {d : PyData} (h : Fit M k b d) (hM : M ≤ M') (hk : k ≤ k') (hb : b ≤ b') : Fit M' k' b' d := ⟨h.lay, intsB_mono hM d h.ib, Nat.le_trans h.dp hk, Nat.le_trans h.bk hb⟩
theorem FitL.le {M k b M' k' b' : Nat} {d : List PyData} (h : FitL M k b d) (hM : M ≤ M') (hk : k ≤ k') (hb : b ≤ b') : FitL M' k' b' d := ⟨h.lay, intsBAll_mono hM d h.ib, Nat.le_trans h.dp hk, Nat.le_trans h.bk hb⟩
theorem Fit.tup {M k b : Nat} {ds : List PyData} (h : Fit M k b (.tuple ds)) : ∃ j, k = j + 1 ∧ FitL M j b ds := by
  have h1 := h.dp
  simp only [PyData.depth] at h1
  exact ⟨k - 1, by omega, by simpa only [PyData.canLay0] using h.lay, by simpa only [intsB] using h.ib, by omega, by simpa only [PyData.bulk] using h.bk⟩
theorem FitL.head {M k b : Nat} {d : PyData} {ds : List PyData} (h : FitL M k b (d :: ds)) : ∃ b1 b2, b1 + 1 + b2 ≤ b ∧ Fit M k b1 d ∧ FitL M k b2 ds := by
  obtain ⟨h1, h2, h3, h4⟩ := h
  simp only [PyData.canLayAll0, Bool.and_eq_true] at h1
  simp only [intsBAll, Bool.and_eq_true] at h2
  simp only [PyData.depthAll] at h3
  simp only [PyData.bulkAll] at h4
  have h3 := Nat.max_le.mp h3
  exact ⟨d.bulk, PyData.bulkAll ds, by omega, ⟨h1.1, h2.1, h3.1, Nat.le_refl _⟩, ⟨h1.2, h2.2, h3.2, Nat.le_refl _⟩⟩
theorem FitL.len {M k : Nat} : ∀ {b : Nat} {xs : List PyData}, FitL M k b xs → xs.length ≤ b
  | b, [], _ => Nat.zero_le _
  | b, x :: xs, h => by
    obtain ⟨b1, b2, e, _, h2⟩ := h.head
    have := h2.len
    rw [List.length_cons]
    omega
theorem cut_take' {α : Type} (xs : List α) (i : Int) (h0 : 0 ≤ i) (h : i ≤ xs.length) : cutL xs none (some i) = xs.take i.toNat := by
  obtain ⟨n, rfl⟩ := Int.eq_ofNat_of_zero_le h0
  rw [cut_take _ _ (by omega)]
  rfl
theorem bv_eqD {S : Type} {s : S} {Q : Val → S → Prop} {k b k' b' : Nat} {d e : PyData} (h : Sm k b d) (h' : Sm k' b' e) (q : Q (.d (.bool (PyData.eqv d e))) s) (hk : k ≤ 64 := by decide) (hk' : k' ≤ 64 := by decide) : BV opEq (.d d) (.d e) s Q :=
  bv_eq q (by rw [h.shaped hk, h'.shaped hk']; rfl)
theorem bv_neD {S : Type} {s : S} {Q : Val → S → Prop} {k b k' b' : Nat} {d e : PyData} (h : Sm k b d) (h' : Sm k' b' e) (q : Q (.d (.bool (!PyData.eqv d e))) s) (hk : k ≤ 64 := by decide) (hk' : k' ≤ 64 := by decide) : BV opNe (.d d) (.d e) s Q :=
  bv_ne q (by rw [h.shaped hk, h'.shaped hk']; rfl)
theorem _root_.DL.Sm.tup {k b : Nat} {ds : List PyData} (h : Sm k b (.tuple ds)) : SmL k b ds ∧ ds.length ≤ b := by
  have hl : ∀ ds : List PyData, ds.length ≤ PyData.bulkAll ds := by
    intro ds
    induction ds with
    | nil => exact Nat.le_refl _
    | cons d ds ih => simp only [PyData.bulkAll, List.length_cons]; omega
  have h1 := h.dp
  have h2 := h.bk
  simp only [PyData.depth] at h1
  simp only [PyData.bulk] at h2
  exact ⟨⟨by simpa only [PyData.canLay0] using h.lay, by simpa only [PyData.intsShort] using h.short, by simpa only [PyData.showable] using h.sh, by omega, h2⟩, Nat.le_trans (hl ds) h2⟩
theorem filt_empty {α : Type} (p : α → Bool) : ∀ ln : List α, (ln.filter fun n => !p n).isEmpty = ln.all p
  | [] => rfl
  | n :: ns => by
    have ih := filt_empty p ns
    cases hp : p n with
    | true => rw [List.filter_cons_of_neg (by simp [hp]), List.all_cons, hp, ih]; rfl
    | false => rw [List.filter_cons_of_pos (by simp [hp]), List.all_cons, hp]; rfl
def whatsL : List Str := ["load", "head", "waited", "lean", "ahead"]
/-- a test, a line of a rule -/
structure Tst where
  what : Str
  lo : Int
  hi : Int
structure Ln where
  ts : List Tst
  act : Bool
def Tst.d (t : Tst) : PyData := .tuple [.str t.what, .int t.lo, .int t.hi]
def Ln.d (l : Ln) : PyData := .tuple [.tuple (l.ts.map Tst.d), .str (deedS l.act)]
def ruD (r : List Ln) : PyData := .tuple (r.map Ln.d)
def big31 : Int := 10000000000000000000000000000000
structure GoodTst (t : Tst) : Prop where
  w : t.what ∈ whatsL
  lo : -big31 ≤ t.lo
  le : t.lo ≤ t.hi
  hi : t.hi ≤ big31
structure GoodRu (L T : Nat) (r : List Ln) : Prop where
  n : r.length ≤ L
  ts : ∀ l ∈ r, l.ts.length ≤ T ∧ ∀ t ∈ l.ts, GoodTst t
theorem whats_ok {x : Str} (h : x ∈ whatsL) : PyData.strOk x = true ∧ x.length ≤ 6 := by
  refine ⟨List.all_eq_true.mp (by decide +kernel : whatsL.all PyData.strOk = true) x h, ?_⟩
  exact of_decide_eq_true (List.all_eq_true.mp (by decide +kernel : whatsL.all (fun x : Str => decide (x.length ≤ 6)) = true) x h)
theorem gr_snoc {L T : Nat} {r : List Ln} {l : Ln} (h : GoodRu L T r) (h1 : l.ts.length ≤ T) (h2 : ∀ t ∈ l.ts, GoodTst t) : GoodRu (L + 1) T (r ++ [l]) :=
  ⟨by simp; exact h.n, fun x hx => by
    rcases List.mem_append.mp hx with m | m
    · exact h.ts x m
    · rw [List.mem_singleton.mp m]; exact ⟨h1, h2⟩⟩
theorem gr_app {L L' T : Nat} {r r' : List Ln} (h : GoodRu L T r) (h' : GoodRu L' T r') : GoodRu (L + L') T (r ++ r') :=
  ⟨by simp; have := h.n; have := h'.n; omega, fun x hx => by
    rcases List.mem_append.mp hx with m | m
    · exact h.ts x m
    · exact h'.ts x m⟩
theorem GoodRu.le {L L' T T' : Nat} {r : List Ln} (h : GoodRu L T r) (hL : L ≤ L') (hT : T ≤ T') : GoodRu L' T' r := ⟨Nat.le_trans h.n hL, fun x hx => ⟨Nat.le_trans (h.ts x hx).1 hT, (h.ts x hx).2⟩⟩
theorem one_s {a : Addr} (ws : List Str) {s : Dk} {k : Int} (hs : Dks a k s) (hk : k < 1000000000) (h : 0 < ws.length ∧ ws.length < 1000000) {Q : Val → Dk → Prop} (q : ∀ w s', w ∈ ws → Dks a (k + 1) s' → Q (.d (.str w)) s') :
    W (m__law_one [.r (.ref a), .d (.list (ws.map .str))] s) Q :=
  one_a hs hk (by simpa using h) fun d s' m o => by
    obtain ⟨n, hn, rfl⟩ := List.mem_map.mp m
    exact q n s' hn o
theorem one_deed {a : Addr} (bs : List Bool) {s : Dk} {k : Int} (hs : Dks a k s) (hk : k < 1000000000) (h : 0 < bs.length ∧ bs.length < 1000000) {Q : Val → Dk → Prop} (q : ∀ b s', b ∈ bs → Dks a (k + 1) s' → Q (.d (.str (deedS b))) s') :
    W (m__law_one [.r (.ref a), .d (.list (bs.map fun b => .str (deedS b)))] s) Q :=
  one_a hs hk (by simpa using h) fun d s' m o => by
    obtain ⟨n, hn, rfl⟩ := List.mem_map.mp m
    exact q n s' hn o
def endsL : List (List Ln) := [[], [⟨[], true⟩], [⟨[], true⟩, ⟨[], false⟩], [⟨[], false⟩, ⟨[], true⟩], [⟨[], true⟩, ⟨[], false⟩], [⟨[], false⟩, ⟨[], true⟩]]
theorem ends_good {T : Nat} : ∀ r ∈ endsL, GoodRu 2 T r := by
  intro r hr
  have h := List.all_eq_true.mp (rfl : (endsL.all fun r => decide (r.length ≤ 2) && r.all fun l => l.ts.isEmpty) = true) r hr
  rw [Bool.and_eq_true] at h
  refine ⟨of_decide_eq_true h.1, fun l hl => ?_⟩
  have e := List.isEmpty_iff.mp (List.all_eq_true.mp h.2 l hl)
  rw [e]
  exact ⟨Nat.zero_le _, fun t ht => by cases ht⟩
theorem e30 : (10 : Int) ^ (30 : Int).toNat = 1000000000000000000000000000000 := by decide +kernel
theorem rule_ok {a : Addr} {w : Wh} {s : Dk} {n : Int} (hs : Dks a n s) (hn : n < 800000000) {Q : Val → Dk → Prop}
    (q : ∀ r s', GoodRu 5 2 r → Dks a (n + 60) s' → Q (.d (ruD r)) s') : W (m__law_rule [.r (.ref a), .d w.d] s) Q := by
  have sz := sizeLine_big
  unfold m__law_rule b__law_rule
  repeat wtm_at "z"
  refine draw_a hs (by omega) (by omega) fun many s1 m0 m1 hs1 => ?_
  repeat wtm_at "z"
  · refine for_inv (fun j ρ s => Dks a (n + 1 + 15 * j) s ∧ ∃ r x3 x4 x5 x6 x7 x8 x9, GoodRu j 2 r ∧ ρ = [.v (.r (.ref a)), .v (.d w.d), .l (r.map Ln.d), x3, x4, x5, x6, x7, x8, x9]) (rngD 0 many.toNat) 0 ⟨hs1.le (by omega), [], _, _, _, _, _, _, _, ⟨Nat.le_refl _, fun _ h => by cases h⟩, rfl⟩ ?_ ?_
    · rintro j d hd ρ s ⟨hs, r, x3, x4, x5, x6, x7, x8, x9, hr, rfl⟩
      have hj := (rng_at hd).1
      rw [Nat.zero_add] at hr hs ⊢
      refine ⟨_, rfl, ?_⟩
      simp only [List.set_cons_succ, List.set_cons_zero]
      repeat wtm_at "z"
      refine draw_a hs (by omega) (by omega) fun more s2 o0 o1 hs2 => ?_
      repeat wtm_at "z"
      · refine for_inv (fun i ρ s => Dks a (n + 1 + 15 * j + 1 + 6 * i) s ∧ ∃ (ts : List Tst) (x5 x6 x7 x8 : Sl), (ts.length ≤ i ∧ ∀ t ∈ ts, GoodTst t) ∧ ρ = [.v (.r (.ref a)), .v (.d w.d), .l (r.map Ln.d), .v (.d d), .l (ts.map Tst.d), x5, x6, x7, x8, x9]) (rngD 0 more.toNat) 0 ⟨hs2.le (by omega), [], _, _, _, _, ⟨Nat.le_refl _, fun _ h => by cases h⟩, rfl⟩ ?_ ?_
        · rintro i d2 hd2 ρ s ⟨hs, ts, x5, x6, x7, x8, ⟨hl, ht⟩, rfl⟩
          have hi := (rng_at hd2).1
          rw [Nat.zero_add] at hl hs ⊢
          refine ⟨_, rfl, ?_⟩
          simp only [List.set_cons_succ, List.set_cons_zero]
          repeat wtm_at "z"
          refine one_s whatsL hs (by omega) (by decide) fun what s3 hwh hs3 => ?_
          repeat wtm_at "z"
          refine draw_a hs3 (by omega) (by omega) fun lo1 s4 l0 l1 hs4 => ?_
          repeat wtm_at "z"
          · refine one_n [0, 0, 0, 2, 9, -40, 60, 10 ^ (30 : Int).toNat] hs4 (by omega) (by constructor <;> decide) fun y s5 hy hs5 => ?_
            rw [e30] at hy
            repeat wtm_at "z"
            refine draw_a hs5 (by omega) (by omega) fun w1 s6 v0 v1 hs6 => ?_
            repeat wtm_at "z"
            refine draw_a hs6 (by omega) (by omega) fun w2 s7 u0 u1 hs7 => ?_
            repeat wtm_at "z"
            · refine one_n [w1, w2, 10, 130, 2 * 10 ^ (30 : Int).toNat] hs7 (by omega) (by constructor <;> simp) fun wi s8 hwi hs8 => ?_
              rw [e30] at hwi
              repeat wtm_at "z"
              refine ⟨_, rfl, by rw [List.length_map]; omega, ?_⟩
              repeat wtm_at "z"
              refine ⟨hs8.le (by omega), ts ++ [⟨what, lo1 - y, lo1 - y + wi⟩], _, _, _, _, ⟨by simp; omega, fun t m => ?_⟩, by rw [List.map_append]; rfl⟩
              rcases List.mem_append.mp m with m | m
              · exact ht t m
              · rw [List.mem_singleton.mp m]
                simp only [List.mem_cons, List.not_mem_nil, or_false] at hy hwi
                refine ⟨hwh, ?_, ?_, ?_⟩ <;> simp only [big31]
                · rcases hy with rfl | rfl | rfl | rfl | rfl | rfl | rfl | rfl <;> omega
                · rcases hwi with rfl | rfl | rfl | rfl | rfl <;> omega
                · rcases hy with rfl | rfl | rfl | rfl | rfl | rfl | rfl | rfl <;> rcases hwi with rfl | rfl | rfl | rfl | rfl <;> omega
            · exact .inl ⟨by decide, by decide⟩
            · exact ⟨by decide, by decide, by decide⟩
          · exact ⟨by decide, by decide, by decide⟩
        · rintro ρ s ⟨hs, ts, x5, x6, x7, x8, ⟨hl, ht⟩, rfl⟩
          rw [rng_len, Nat.zero_add] at hl hs
          repeat wtm_at "z"
          refine one_deed [true, false] hs (by omega) (by decide) fun b s3 hb hs3 => ?_
          have := hr.n
          repeat wtm_at "z"
          refine ⟨_, rfl, by rw [List.length_map]; omega, ?_⟩
          repeat wtm_at "z"
          refine ⟨hs3.le (by omega), r ++ [⟨ts, b⟩], _, _, _, _, _, _, _, gr_snoc hr (by show ts.length ≤ 2; omega) ht, by rw [List.map_append]; rfl⟩
      · omega
    · rintro ρ s ⟨hs, r, x3, x4, x5, x6, x7, x8, x9, hr, rfl⟩
      rw [rng_len, Nat.zero_add] at hr hs
      have hrn := hr.n
      repeat wtm_at "z"
      · refine one_a (ds := endsL.map fun r => .list (r.map Ln.d)) hs (by omega) (by constructor <;> decide) fun d s2 hd hs2 => ?_
        obtain ⟨r', hr', rfl⟩ := List.mem_map.mp hd
        have hg := ends_good (T := 2) r' hr'
        have hgn := hg.n
        repeat wtm_at "z"
        · have e : r.map Ln.d ++ r'.map Ln.d = (r ++ r').map Ln.d := by rw [List.map_append]
          rw [e]
          exact q (r ++ r') s2 ((gr_app hr hg).le (by omega) (Nat.le_refl _)) (hs2.le (by omega))
        · simp only [List.length_map]; omega
      · exact Nat.le_trans (by decide : _ ≤ 1000) (by omega)
  · omega
/-- what tests look at -/
def numsD (w : Wh) (t : Sd) : List (PyData × PyData) :=
  [(.str "load", .int (t.ls.headD 0)), (.str "head", .int (t.ln.headD 0)), (.str "waited", .int t.wt), (.str "lean", .int (dotL w.ws t.ls)), (.str "ahead", .int (dotL w.ws (turnL t.ls)))]
def numOf (w : Wh) (t : Sd) (x : Str) : Int :=
  if x = "load" then t.ls.headD 0 else if x = "head" then t.ln.headD 0 else if x = "waited" then t.wt else if x = "lean" then dotL w.ws t.ls else dotL w.ws (turnL t.ls)
theorem get_num (w : Wh) (t : Sd) {x : Str} (hx : x ∈ whatsL) : opDIx (.dict (numsD w t)) (.str x) = some (.int (numOf w t x)) := by
  unfold whatsL at hx
  simp only [List.mem_cons, List.not_mem_nil, or_false] at hx
  rcases hx with rfl | rfl | rfl | rfl | rfl
  · rfl
  · rfl
  · rfl
  · rfl
  · rfl
def fitsT (w : Wh) (t : Sd) (c : Tst) : Bool := decide (c.lo ≤ numOf w t c.what) && decide (numOf w t c.what ≤ c.hi)
def lineB (w : Wh) (t : Sd) (l : Ln) : Bool := l.ts.all (fitsT w t) && mayB w t l.act
def deedR (w : Wh) (t : Sd) (r : List Ln) : Option Bool := (r.find? (lineB w t)).map (·.act)
def actD : Option Bool → PyData
  | none => .none
  | some b => .str (deedS b)
theorem w_newDisp {S : Type} {s : S} {ρ : DL.Env} {ks : List Str} {g : Exs S} {Q : Sl → S → Prop} (h : W (g ρ s) fun ys s1 => DV_ ys s1 fun ds s2 => (ks.Nodup ∧ ds.length = ks.length ∧ ks.length ≤ 15) ∧ Q (.m ((ks.map PyData.str).zip ds)) s2) : W (nDisp ks g ρ s) Q :=
  w_bind (h.mono fun ys s1 ⟨ds, e, hl, z⟩ => by show W (match datas ys with | some ds => _ | none => _) Q; rw [e]; show W (if _ then _ else _) Q; rw [if_pos hl]; exact ⟨z⟩)
theorem w_putS {S : Type} {s : S} {ρ : DL.Env} {i : Nat} {fi f : Ex S} {kvs : List (PyData × PyData)} {Q : Fl → S → Prop} (e : ρ[i]? = some (.m kvs)) (h : W (f ρ s) fun y s1 => W (fi ρ s1) fun k s2 => ∃ z kd kk, y = .d z ∧ k = .d kd ∧ scK kd = some kk ∧ (kvs.length < sizeLine ∧ (kvs.all fun p => (scK p.1).isSome) = true) ∧ Stt (ρ.set i (.m (dPutS kvs kd z kk))) fun ρ1 => Q (.nx ρ1) s2) : W (sPutS i fi f ρ s) Q := by
  unfold sPutS
  refine w_bind (h.mono fun y s1 h => ?_)
  rw [e]
  refine w_bind (h.mono fun k s2 ⟨z, kd, kk, hy, hk, hs, hc, q⟩ => ?_)
  subst hy hk
  show W (match scK kd with | some kk => _ | none => _) Q
  rw [hs]
  show W (if _ then _ else _) Q
  rw [if_pos hc]
  exact ⟨q⟩
theorem numbers_eq (w : Wh) (t : Sd) (hw : SmallL w.ws) (hl : t.ls.length ≤ 1000) (h0 : t.ls ≠ []) (h1 : t.ln ≠ []) (s : Dk) : m_numbers_of [.d w.d, .d t.d] s = .ok (.d (.dict (numsD w t))) s := by
  obtain ⟨ls, ln, wt⟩ := t
  cases ls with
  | nil => exact absurd rfl h0
  | cons l r =>
  cases ln with
  | nil => exact absurd rfl h1
  | cons z zs =>
  have sz := sizeLine_big
  refine w_eq ?_
  unfold m_numbers_of b_numbers_of
  dsimp only [Sd.d, iT, List.map, exsOf]
  repeat wtm_at "z"
  refine w_unp ?_
  repeat wtm_at "z"
  refine ⟨_, _, rfl, rfl, ?_⟩
  simp only [List.set_cons_succ, List.set_cons_zero]
  repeat wtm_at "z"
  refine w_newDisp ?_
  repeat wtm_at "z"
  refine w_of (lean_eq w (l :: r) hw _) ?_
  repeat wtm_at "z"
  refine ⟨⟨by decide +kernel, rfl, by decide⟩, ?_⟩
  repeat wtm_at "z"
  refine w_putS rfl ?_
  repeat wtm_at "z"
  refine w_of (turned_loads_eq (l :: r) hl _) ?_
  repeat wtm_at "z"
  refine w_of (lean_eq w _ hw _) ?_
  repeat wtm_at "z"
  refine ⟨_, _, _, rfl, rfl, rfl, ⟨by simp; omega, rfl⟩, ?_⟩
  repeat wtm_at "z"
  try refine w_bvarM rfl ?_
  repeat wtm_at "z"
  exact ⟨rfl, rfl⟩
theorem deed_eq (w : Wh) (r : List Ln) (t : Sd) (hw : SmallL w.ws) (hr : ∀ l ∈ r, l.ts.length ≤ 1000 ∧ ∀ c ∈ l.ts, c.what ∈ whatsL) (hl : t.ls.length ≤ 1000) (h0 : t.ls ≠ []) (h1 : t.ln ≠ []) (s : Dk) : m_deed [.d w.d, .d (ruD r), .d t.d] s = .ok (.d (actD (deedR w t r))) s := by
  refine w_eq ?_
  have sz := sizeLine_big
  unfold m_deed b_deed ruD
  repeat wtm_at "z"
  refine w_of (numbers_eq w t hw hl h0 h1 _) ?_
  repeat wtm_at "z"
  refine for_pre Ln.d (fun p ρ s' => s' = s ∧ p.find? (lineB w t) = none ∧ ∃ x4 x5 x6 x7 x8, ρ = [.v (.d w.d), .v (.d (.tuple (r.map Ln.d))), .v (.d t.d), .v (.d (.dict (numsD w t))), x4, x5, x6, x7, x8]) r ⟨rfl, rfl, _, _, _, _, _, rfl⟩ ?_ ?_
  · rintro p l post ep ρ s' ⟨rfl, hp, x4, x5, x6, x7, x8, rfl⟩
    obtain ⟨hlt, hlc⟩ := hr l (by rw [ep]; simp)
    have hend : lineB w t l = true → deedR w t r = some l.act := fun e => by
      unfold deedR
      rw [ep, List.find?_append, hp, List.find?_cons, e]
      rfl
    have hgo : lineB w t l = false → (p ++ [l]).find? (lineB w t) = none := fun e => by
      rw [List.find?_append, hp, List.find?_cons, e]
      rfl
    refine ⟨_, rfl, ?_⟩
    simp only [List.set_cons_succ, List.set_cons_zero]
    repeat wtm_at "z"
    refine ⟨by rw [List.length_map]; omega, ?_⟩
    refine lc_mapOf Tst.d (fun c => .bool (fitsT w t c)) l.ts (fun c hc => item1 rfl ?_) ?_
    · have hg := get_num w t (hlc c hc)
      repeat wtm_at "z"
      refine bv (op := opDIx) hg ?_
      repeat wtm_at "z"
      refine br_dec (fun h => ?_) fun h => ?_
      · repeat wtm_at "z"
        refine bv (op := opDIx) hg ?_
        repeat wtm_at "z"
        refine ⟨_, rfl, ?_, rfl⟩
        unfold fitsT
        rw [decide_eq_true h]
        rfl
      · refine ⟨_, rfl, ?_, rfl⟩
        unfold fitsT
        rw [decide_eq_false h]
        rfl
    · repeat wtm_at "z"
      refine cv_all ?_
      repeat wtm_at "z"
      refine br (fun h => ?_) fun h => ?_
      · repeat wtm_at "z"
        refine w_of (may_eq w t l.act hw hl h0 h1 _) ?_
        repeat wtm_at "z"
        refine br (fun h2 => ?_) fun h2 => ?_
        · repeat wtm_at "z"
          rw [hend (by unfold lineB; rw [h, h2]; rfl)]
          exact ⟨rfl, rfl⟩
        · repeat wtm_at "z"
          exact ⟨rfl, hgo (by unfold lineB; rw [h2, Bool.and_false]), _, _, _, _, _, rfl⟩
      · repeat wtm_at "z"
        exact ⟨rfl, hgo (by unfold lineB; rw [h, Bool.false_and]), _, _, _, _, _, rfl⟩
  · rintro ρ s' ⟨rfl, hp, x4, x5, x6, x7, x8, rfl⟩
    repeat wtm_at "z"
    refine ⟨?_, rfl⟩
    unfold deedR
    rw [hp]
    rfl
theorem ldeed_eq (w : Wh) (r : List Ln) (t : Sd) {most : Int} (hw : GoodWh most w) (hg : GoodSd w t) (hr : ∀ l ∈ r, l.ts.length ≤ 1000 ∧ ∀ c ∈ l.ts, c.what ∈ whatsL ∧ Sm 0 10 (.str c.what)) (s : Dk) : m__law_deed_of [.d w.d, .d (ruD r), .d t.d] s = .ok (.d (actD (deedR w t r))) s := by
  obtain ⟨h0, h1, hl, hl2⟩ := hg.ne hw
  have hzl := hw.zl
  have sz := sizeLine_big
  refine w_eq ?_
  unfold m__law_deed_of b__law_deed_of ruD
  dsimp only [exsOf]
  obtain ⟨ls, ln, wt⟩ := t
  cases ls with
  | nil => exact absurd rfl h0
  | cons l0 r0 =>
  cases ln with
  | nil => exact absurd rfl h1
  | cons z zs =>
  have e1 : cutL (PyData.int l0 :: r0.map PyData.int) none (some (-1)) = (l0 :: r0).dropLast.map PyData.int := by
    rw [cut_init, List.map_dropLast]; rfl
  generalize hd : Sl.v (Val.d (Sd.d ⟨l0 :: r0, z :: zs, wt⟩)) = zt
  rw [show ([Val.d w.d, Val.d (.tuple (r.map Ln.d)), Val.d (Sd.d ⟨l0 :: r0, z :: zs, wt⟩)] : List Val) = [Val.d w.d, Val.d (.tuple (r.map Ln.d)), Val.d (.tuple [iT (l0 :: r0), iT (z :: zs), .int wt])] from rfl]
  dsimp only [iT, List.map]
  repeat wtm_at "z"
  refine w_unp ?_
  repeat wtm_at "z"
  refine ⟨_, _, rfl, rfl, ?_⟩
  simp only [List.set_cons_succ, List.set_cons_zero]
  repeat wtm_at "z"
  refine w_newDisp ?_
  repeat wtm_at "z"
  refine w_of (llean_eq w (l0 :: r0) hw.small _) ?_
  repeat wtm_at "z"
  refine ⟨⟨by decide +kernel, rfl, by decide⟩, ?_⟩
  repeat wtm_at "z"
  refine w_putS rfl ?_
  repeat wtm_at "z"
  · rw [e1]
    repeat wtm_at "z"
    refine w_of (llean_eq w (turnL (l0 :: r0)) hw.small _) ?_
    repeat wtm_at "z"
    refine ⟨_, _, _, rfl, rfl, rfl, ⟨by simp; omega, rfl⟩, ?_⟩
    repeat wtm_at "z"
    have ht : Sd.d ⟨l0 :: r0, z :: zs, wt⟩ = .tuple [.tuple (.int l0 :: r0.map .int), .tuple (.int z :: zs.map .int), .int wt] := rfl
    rw [← ht]
    have hm : dPutS ((List.map PyData.str ["load", "head", "waited", "lean"]).zip [PyData.int l0, PyData.int z, PyData.int wt, PyData.int (dotL w.ws (l0 :: r0))]) (.str "ahead") (.int (dotL w.ws (turnL (l0 :: r0)))) (Sum.inr "ahead") = numsD w ⟨l0 :: r0, z :: zs, wt⟩ := rfl
    rw [hm]
    generalize hT : (⟨l0 :: r0, z :: zs, wt⟩ : Sd) = t at *
    refine for_pre Ln.d (fun p ρ s' => s' = s ∧ p.find? (lineB w t) = none ∧ ∃ x3 x4 x5 x7 x8 x9 x10 x11 x12, ρ = [.v (.d w.d), .v (.d (.tuple (r.map Ln.d))), .v (.d t.d), x3, x4, x5, .m (numsD w t), x7, x8, x9, x10, x11, x12]) r ⟨rfl, rfl, _, _, _, _, _, _, _, _, _, rfl⟩ ?_ ?_
    · rintro p l post ep ρ s' ⟨rfl, hp, x3, x4, x5, x7, x8, x9, x10, x11, x12, rfl⟩
      obtain ⟨hlt, hlc⟩ := hr l (by rw [ep]; simp)
      have hend : lineB w t l = true → deedR w t r = some l.act := fun e => by
        unfold deedR
        rw [ep, List.find?_append, hp, List.find?_cons, e]
        rfl
      have hgo : lineB w t l = false → (p ++ [l]).find? (lineB w t) = none := fun e => by
        rw [List.find?_append, hp, List.find?_cons, e]
        rfl
      refine ⟨_, rfl, ?_⟩
      simp only [List.set_cons_succ, List.set_cons_zero]
      repeat wtm_at "z"
      refine ⟨by rw [List.length_map]; omega, ?_⟩
      refine lc_someOf Tst.d (fun c => !fitsT w t c) (fun c => .str c.what) l.ts (fun c hc => item rfl ?_) ?_
      · have hg := get_num w t (hlc c hc).1
        repeat wtm_at "z"
        try refine w_bvarM rfl ?_
        repeat wtm_at "z"
        refine bv (op := opDIx) hg ?_
        repeat wtm_at "z"
        refine br_dec (fun h => ?_) fun h => ?_
        · repeat wtm_at "z"
          unfold fitsT
          rw [decide_eq_true h, Bool.true_and]
          refine br (fun h => ?_) fun h => ?_
          · repeat wtm_at "z"
            exact ⟨_, rfl, by rw [if_pos h], rfl⟩
          · exact ⟨by rw [if_neg (by rw [h]; decide)], rfl⟩
        · repeat wtm_at "z"
          unfold fitsT
          rw [decide_eq_false h]
          refine br_t ?_
          repeat wtm_at "z"
          exact ⟨_, rfl, rfl, rfl⟩
      · repeat wtm_at "z"
        have hss : Sm 1 11000 (.list ((l.ts.filter fun c => !fitsT w t c).map fun c => .str c.what)) := sm_list ((sl_all (k := 0) (b := 10) _ fun d hd => by
          obtain ⟨c, hc, rfl⟩ := List.mem_map.mp hd
          exact (hlc c (List.mem_filter.mp hc).1).2).le (Nat.le_refl _) (by
            rw [List.length_map]
            have := List.length_filter_le (fun c => !fitsT w t c) l.ts
            omega))
        refine bv_eqD hss (k' := 1) (b' := 0) (sm_list sl_nil) ?_
        have ee : PyData.eqv (.list ((l.ts.filter fun c => !fitsT w t c).map fun c => .str c.what)) (.list []) = l.ts.all (fitsT w t) := by
          rw [← filt_empty (fitsT w t), ← List.isEmpty_map (f := fun c : Tst => PyData.str c.what)]
          generalize (l.ts.filter fun c => !fitsT w t c).map (fun c => PyData.str c.what) = q
          cases q <;> simp [PyData.eqv, PyData.eqvAll]
        rw [ee]
        repeat wtm_at "z"
        refine br (fun h => ?_) fun h => ?_
        · repeat wtm_at "z"
          refine w_of (behind_eq w t l.act hw.small (by omega) (by omega) (by omega) h0 h1 _) ?_
          repeat wtm_at "z"
          refine bv_neNil (.inr rfl) (sm_behind l.act hw hg) ?_
          have eb : (!((behindL w t l.act).map Sd.d).isEmpty) = mayB w t l.act := by
            rw [List.isEmpty_map, behind_may w t l.act hw hg, Bool.not_not]
          rw [eb]
          repeat wtm_at "z"
          refine br (fun h2 => ?_) fun h2 => ?_
          · repeat wtm_at "z"
            rw [hend (by unfold lineB; rw [h, h2]; rfl)]
            exact ⟨rfl, rfl⟩
          · repeat wtm_at "z"
            exact ⟨rfl, hgo (by unfold lineB; rw [h2, Bool.and_false]), _, _, _, _, _, _, _, _, _, rfl⟩
        · repeat wtm_at "z"
          exact ⟨rfl, hgo (by unfold lineB; rw [h, Bool.false_and]), _, _, _, _, _, _, _, _, _, rfl⟩
    · rintro ρ s' ⟨rfl, hp, x3, x4, x5, x7, x8, x9, x10, x11, x12, rfl⟩
      repeat wtm_at "z"
      refine ⟨?_, rfl⟩
      unfold deedR
      rw [hp]
      rfl
  · rw [e1]
    simp at hl ⊢
    omega
/-- how a rule goes through a queue -/
inductive Run (w : Wh) (r : List Ln) (q : List Int) : Sd → Nat → List (Sd × Option Bool) → Prop
  | stuck {t : Sd} {n : Nat} (h : deedR w t r = none) : Run w r q t n [(t, none)]
  | done {t : Sd} {n : Nat} (h : deedR w t r = some true) (e : n = q.length) : Run w r q t n [(t, some true)]
  | board {t : Sd} {n : Nat} {z : Int} {L : List (Sd × Option Bool)} (h : deedR w t r = some true) (e : q[n]? = some z) (k : Run w r q (afterL t true z) (n + 1) L) : Run w r q t n ((t, some true) :: L)
  | turn {t : Sd} {n : Nat} {L : List (Sd × Option Bool)} (h : deedR w t r = some false) (k : Run w r q (afterL t false 0) n L) : Run w r q t n ((t, some false) :: L)
def stD (p : Sd × Option Bool) : PyData := .tuple [p.1.d, actD p.2]
theorem deed_may {w : Wh} {t : Sd} {r : List Ln} {b : Bool} (h : deedR w t r = some b) : mayB w t b = true := by
  unfold deedR at h
  cases hf : r.find? (lineB w t) with
  | none => rw [hf] at h; cases h
  | some l =>
    rw [hf] at h
    cases h
    have := List.find?_some hf
    unfold lineB at this
    rw [Bool.and_eq_true] at this
    exact this.2
theorem may_turn {w : Wh} {t : Sd} (h : mayB w t false = true) : t.wt < w.pat := by
  have h : (decide (t.wt < w.pat) && w.up (turnL t.ls)) = true := h
  rw [Bool.and_eq_true] at h
  exact of_decide_eq_true h.1
theorem after_good {w : Wh} {t : Sd} {most : Int} (hw : GoodWh most w) (hg : GoodSd w t) {b : Bool} (h : mayB w t b = true) {z : Int} (hz : b = true → z ∈ w.sizes) : GoodSd w (afterL t b z) := by
  have hne : behindL w t b ≠ [] := fun e => by
    have := behind_may w t b hw hg
    rw [e, h] at this
    cases this
  have hall := behind_all hne
  have hgood := behind_good w t b hw hg
  rw [hall] at hgood
  cases b with
  | true => exact hgood _ (List.mem_map.mpr ⟨z, hz rfl, rfl⟩)
  | false => exact hgood (afterL t false 0) (by simp [allL])
theorem run_total {w : Wh} {most : Int} (hw : GoodWh most w) (r : List Ln) {q : List Int} (hq : ∀ z ∈ q, z ∈ w.sizes) : ∀ (m : Nat) (t : Sd) (n : Nat), GoodSd w t → n ≤ q.length → (q.length - n) * 7 + (w.pat - t.wt).toNat ≤ m → ∃ L, Run w r q t n L ∧ L.length ≤ m + 1 := by
  have hp := hw.pat
  intro m
  induction m with
  | zero =>
    intro t n hg hn hm
    cases hd : deedR w t r with
    | none => exact ⟨_, .stuck hd, Nat.le_refl _⟩
    | some b =>
      cases b with
      | true => exact ⟨_, .done hd (by omega), Nat.le_refl _⟩
      | false =>
        have := may_turn (deed_may hd)
        omega
  | succ m ih =>
    intro t n hg hn hm
    cases hd : deedR w t r with
    | none => exact ⟨_, .stuck hd, by simp⟩
    | some b =>
      cases b with
      | true =>
        by_cases he : n = q.length
        · exact ⟨_, .done hd he, by simp⟩
        · have hlt : n < q.length := by omega
          have hz : q[n] ∈ w.sizes := hq _ (List.getElem_mem hlt)
          have hg2 := after_good hw hg (deed_may hd) (fun _ => hz)
          obtain ⟨L, hL, hl⟩ := ih _ (n + 1) hg2 (by omega) (by
            show (q.length - (n + 1)) * 7 + (w.pat - 0).toNat ≤ m
            omega)
          exact ⟨_, .board hd (List.getElem?_eq_getElem hlt) hL, by simp; omega⟩
      | false =>
        have hmy := deed_may hd
        have hlt := may_turn hmy
        have hg2 := after_good (z := 0) hw hg hmy (fun h => by cases h)
        have h0 := hg.wt.1
        obtain ⟨L, hL, hl⟩ := ih _ n hg2 hn (by
          show (q.length - n) * 7 + (w.pat - (t.wt + 1)).toNat ≤ m
          omega)
        exact ⟨_, .turn hd hL, by simp; omega⟩
theorem run_good {w : Wh} {most : Int} (hw : GoodWh most w) {r : List Ln} {q : List Int} (hq : ∀ z ∈ q, z ∈ w.sizes) : ∀ {t : Sd} {n : Nat} {L : List (Sd × Option Bool)}, Run w r q t n L → GoodSd w t → ∀ p ∈ L, GoodSd w p.1
  | _, _, _, .stuck h, hg, p, m => by rw [List.mem_singleton.mp m]; exact hg
  | _, _, _, .done h e, hg, p, m => by rw [List.mem_singleton.mp m]; exact hg
  | _, _, _, .board h e k, hg, p, m => by
    rcases List.mem_cons.mp m with rfl | m
    · exact hg
    · exact run_good hw hq k (after_good hw hg (deed_may h) (fun _ => hq _ (List.mem_of_getElem? e))) p m
  | _, _, _, .turn h k, hg, p, m => by
    rcases List.mem_cons.mp m with rfl | m
    · exact hg
    · exact run_good hw hq k (after_good (z := 0) hw hg (deed_may h) (fun h => by cases h)) p m
def start0 (w : Wh) (q : List Int) : Sd := ⟨List.replicate w.ws.length 0, q.take w.look.toNat, 0⟩
theorem start0_good {w : Wh} {most : Int} (hw : GoodWh most w) {q : List Int} (hq : ∀ z ∈ q, z ∈ w.sizes) (hl : w.look ≤ q.length) : GoodSd w (start0 w q) := by
  have h1 := hw.look
  have h2 := hw.room
  have h3 := hw.pat
  refine ⟨by simp [start0], fun x hx => ?_, ?_, fun z hz => hq z (List.mem_of_mem_take hz), ⟨Int.le_refl _, by show (0 : Int) ≤ w.pat; omega⟩⟩
  · have := (List.mem_replicate.mp hx).2
    omega
  · show ((q.take w.look.toNat).length : Int) = w.look
    rw [List.length_take]
    omega
theorem sm_act (a : Option Bool) : Sm 0 5 (actD a) := by
  cases a with
  | none => exact sm_none.le (Nat.le_refl _) (by decide)
  | some b => exact sm_deed b
theorem sm_st {w : Wh} {most : Int} (hw : GoodWh most w) {p : Sd × Option Bool} (hg : GoodSd w p.1) : Sm 3 19 (stD p) :=
  (sm_tuple (sl_cons (sm_sd hw hg) (sl_cons ((sm_act p.2).le (Nat.zero_le 2) (Nat.le_refl _)) sl_nil))).le (by decide) (by decide)
theorem whats_sm {x : Str} (h : x ∈ whatsL) : Sm 0 10 (.str x) := by
  obtain ⟨h1, h2⟩ := whats_ok h
  exact (sm_str (cp_of h1)).le (Nat.le_refl _) (by omega)
theorem atI_last {α : Type} (xs : List α) (x : α) : L2.atI (xs ++ [x]) (-1) = some x := by
  unfold L2.atI L2.ixN
  rw [if_neg (by decide), if_pos (by simp; omega)]
  rw [show (-1 + ((xs ++ [x]).length : Int)).toNat = xs.length by simp; omega]
  simp
theorem filt_one {z : Int} : ∀ {zs : List Int}, z ∈ zs → ∃ rest, zs.filter (fun y => decide (y = z)) = z :: rest
  | [], h => by cases h
  | x :: xs, h => by
    by_cases e : x = z
    · subst e
      exact ⟨_, List.filter_cons_of_pos (by simp)⟩
    · obtain ⟨rest, e2⟩ := filt_one (zs := xs) (by rcases List.mem_cons.mp h with r | r; exact absurd r.symm e; exact r)
      exact ⟨rest, by rw [List.filter_cons_of_neg (by simpa using e), e2]⟩
theorem deed_behind {w : Wh} {t : Sd} {most : Int} (hw : GoodWh most w) (hg : GoodSd w t) {r : List Ln} {b : Bool} (h : deedR w t r = some b) : behindL w t b = allL w t b := by
  refine behind_all fun e => ?_
  have := behind_may w t b hw hg
  rw [e, deed_may h] at this
  cases this
theorem lrun_eq (w : Wh) {most : Int} (hw : GoodWh most w) (r : List Ln) {L T : Nat} (hr : GoodRu L T r) (hT : T ≤ 1000) (q : List Int) (hq : ∀ z ∈ q, z ∈ w.sizes) (hl : w.look ≤ q.length) (hq2 : q.length ≤ 10000) (s : Dk) {R : List (Sd × Option Bool)} (hR : Run w r q (start0 w q) w.look.toNat R) (hR2 : R.length ≤ 900000) :
    m__law_run [.d w.d, .d (ruD r), .d (iT q)] s = .ok (.d (.list (R.map stD))) s := by
  refine w_eq ?_
  have sz := sizeLine_big
  have hn := hw.n
  have hlk := hw.look
  have hzl := hw.zl
  have hrr : ∀ l ∈ r, l.ts.length ≤ 1000 ∧ ∀ c ∈ l.ts, c.what ∈ whatsL ∧ Sm 0 10 (.str c.what) := fun l hl => ⟨by have := (hr.ts l hl).1; omega, fun c hc => ⟨((hr.ts l hl).2 c hc).w, whats_sm ((hr.ts l hl).2 c hc).w⟩⟩
  unfold m__law_run b__law_run
  repeat wtm_at "z"
  · have ec : cutL (q.map PyData.int) none (some w.look) = (q.take w.look.toNat).map .int := by
      rw [cut_take' _ _ (by omega) (by rw [List.length_map]; omega), List.map_take]
    rw [ec, rep0, show ((w.ws.map PyData.int).length : Int).toNat = w.ws.length by simp]
    rw [show (PyData.tuple [.tuple ((List.replicate w.ws.length (0 : Int)).map .int), .tuple ((q.take w.look.toNat).map .int), .int 0]) = (start0 w q).d from rfl]
    refine w_while (fun m ρ s' => s' = s ∧ ∃ (acc Q' : List (Sd × Option Bool)) (t : Sd) (n : Nat) (x6 x7 x8 : Sl), m = Q'.length ∧ Run w r q t n Q' ∧ acc ++ Q' = R ∧ GoodSd w t ∧ n ≤ q.length ∧
      ρ = [.v (.d w.d), .v (.d (ruD r)), .v (.d (iT q)), .v (.d t.d), .v (.d (.int n)), .l (acc.map stD), x6, x7, x8]) (m := R.length) (by omega) ⟨rfl, [], R, _, w.look.toNat, _, _, _, rfl, hR, rfl, start0_good hw hq hl, by omega, by rw [show ((w.look.toNat : Nat) : Int) = w.look by omega]; rfl⟩ ?_
    rintro m ρ s' ⟨rfl, acc, Q', t, n, x6, x7, x8, rfl, hrun, hacc, hg, hnq, rfl⟩
    obtain ⟨h0, h1, h6, h3⟩ := hg.ne hw
    have hal : acc.length ≤ R.length := by rw [← hacc]; simp
    repeat wtm_at "z"
    refine w_of (ldeed_eq w r t hw hg hrr _) ?_
    repeat wtm_at "z"
    refine ⟨_, rfl, by rw [List.length_map]; omega, ?_⟩
    repeat wtm_at "z"
    have eapp : acc.map stD ++ [.tuple [t.d, actD (deedR w t r)]] = (acc ++ [(t, deedR w t r)]).map stD := by rw [List.map_append]; rfl
    rw [eapp]
    cases hrun with
    | stuck h =>
      rw [h]
      refine bv (op := opIs) rfl ?_
      repeat wtm_at "z"
      refine br_t ?_
      repeat wtm_at "z"
      rw [hacc]
      exact ⟨rfl, rfl⟩
    | done h e =>
      rw [h]
      refine bv (op := opIs) rfl ?_
      repeat wtm_at "z"
      refine br_f ?_
      repeat wtm_at "z"
      refine bv_eqS ?_ (by decide +kernel)
      repeat wtm_at "z"
      rw [deed_board]
      repeat wtm_at "z"
      refine br_dec (fun _ => ?_) fun h => absurd (by rw [List.length_map, e]) h
      repeat wtm_at "z"
      rw [hacc]
      exact ⟨rfl, rfl⟩
    | board h e k =>
      rename_i z Q2
      have hlt : n < q.length := by
        rcases Nat.lt_or_ge n q.length with h | h
        · exact h
        · rw [List.getElem?_eq_none h] at e; cases e
      have hz := hq _ (List.mem_of_getElem? e)
      have hbe := deed_behind hw hg h
      rw [h] at eapp ⊢
      refine bv (op := opIs) rfl ?_
      repeat wtm_at "z"
      refine br_f ?_
      repeat wtm_at "z"
      refine bv_eqS ?_ (by decide +kernel)
      repeat wtm_at "z"
      rw [deed_board]
      repeat wtm_at "z"
      refine br_dec (fun e2 => absurd e2 (by rw [List.length_map]; omega)) fun _ => ?_
      repeat wtm_at "z"
      refine w_of (behind_eq w t true hw.small (by omega) (by omega) (by omega) h0 h1 _) ?_
      repeat wtm_at "z"
      rw [hbe]
      refine bv_eqS ?_ (by decide +kernel)
      repeat wtm_at "z"
      rw [deed_turn]
      refine br_f ?_
      repeat wtm_at "z"
      have hall : (allL w t true).map Sd.d = w.sizes.map fun y => Sd.d (afterL t true y) := by
        show ((w.sizes.map (afterL t true)).map Sd.d) = _
        rw [List.map_map]
        rfl
      rw [hall]
      refine ⟨by rw [List.length_map]; omega, ?_⟩
      refine lc_someOf (fun y => Sd.d (afterL t true y)) (fun y => decide (y = z)) (fun y => Sd.d (afterL t true y)) w.sizes (fun y _ => item rfl ?_) ?_
      · have elast : L2.atI ((afterL t true y).ln.map PyData.int) (-1) = some (.int y) := by
          show L2.atI ((t.ln.drop 1 ++ [y]).map PyData.int) (-1) = _
          rw [List.map_append]
          exact atI_last _ _
        have eix : L2.atI (q.map PyData.int) (n : Int) = some (.int z) := by rw [DL.atI_nat, List.getElem?_map, e]; rfl
        repeat wtm_at "z"
        refine bv (op := opIx) elast ?_
        repeat wtm_at "z"
        refine bv (op := opIx) eix ?_
        repeat wtm_at "z"
        refine br_dec (fun h => ?_) fun h => ?_
        · repeat wtm_at "z"
          exact ⟨_, rfl, by rw [if_pos (decide_eq_true h)], rfl⟩
        · exact ⟨by rw [if_neg (by simpa using h)], rfl⟩
      obtain ⟨rest, ef⟩ := filt_one hz
      rw [ef, List.map_cons]
      repeat wtm_at "z"
      exact ⟨Q2.length, by simp, rfl, acc ++ [(t, some true)], Q2, _, n + 1, _, _, _, rfl, k, by rw [← hacc]; simp, after_good hw hg (deed_may h) (fun _ => hz), by omega, rfl⟩
    | turn h k =>
      rename_i Q2
      have hbe := deed_behind hw hg h
      rw [h] at eapp ⊢
      refine bv (op := opIs) rfl ?_
      repeat wtm_at "z"
      refine br_f ?_
      repeat wtm_at "z"
      refine bv_eqS ?_ (by decide +kernel)
      repeat wtm_at "z"
      rw [deed_board]
      repeat wtm_at "z"
      refine w_of (behind_eq w t false hw.small (by omega) (by omega) (by omega) h0 h1 _) ?_
      repeat wtm_at "z"
      rw [hbe]
      refine bv_eqS ?_ (by decide +kernel)
      repeat wtm_at "z"
      rw [deed_turn]
      refine br_t ?_
      repeat wtm_at "z"
      refine ⟨Q2.length, by simp, rfl, acc ++ [(t, some false)], Q2, _, n, _, _, _, rfl, k, by rw [← hacc]; simp, after_good (z := 0) hw hg (deed_may h) (fun h => by cases h), hnq, rfl⟩
  · exact ⟨by rw [List.length_map]; omega, by rw [List.length_map]; omega, (by decide : 1 ≤ 1000)⟩
/-- a text as those that are met -/
structure Ok (z : Str) : Prop where
  cp : CpOk z
  len : z.length ≤ 100000
theorem Ok.sz {z : Str} (h : Ok z) : z.length ≤ sizeLine := by have := h.len; have := sizeLine_big; omega
theorem sIx_none (n d : Nat) : HT.sIx n d none = d := rfl
/-- what the text lines have told so far -/
structure Pt where
  ws : List Int
  room : Int
  zs : List Int
  b : List Int
  pat : Int
  look : Int
def Pt.all (p : Pt) : List PyData := [iT p.ws, .int p.room, iT p.zs, iT p.b, .int p.pat, .int p.look]
def p0 : Pt := ⟨[], 1, [], [], 1, 1⟩
theorem cut_takeN {α : Type} (xs : List α) (n : Nat) : cutL xs none (some (n : Int)) = xs.take n := by
  unfold cutL
  rw [HT.sIx_none, HT.sIx_nat, List.drop_zero, Nat.sub_zero]
  by_cases h : n ≤ xs.length
  · rw [Nat.min_eq_left h]
  · rw [Nat.min_eq_right (by omega), List.take_of_length_le (Nat.le_refl _), List.take_of_length_le (by omega)]
/-- a text of at most n signs -/
structure Okn (n : Nat) (z : Str) : Prop where
  cp : CpOk z
  len : z.length ≤ n
theorem Okn.ok {n : Nat} {z : Str} (h : Okn n z) (hn : n ≤ 100000 := by decide) : Ok z := ⟨h.cp, Nat.le_trans h.len hn⟩
theorem Okn.sz {n : Nat} {z : Str} (h : Okn n z) (hn : n ≤ 100000 := by decide) : z.length ≤ sizeLine := (h.ok hn).sz
def irng (n : Nat) : List Int := (List.range n).map fun (i : Nat) => (i : Int)
theorem irng_mem {n : Nat} {x : Int} (h : x ∈ irng n) : 0 ≤ x ∧ x < n := by
  unfold irng at h
  obtain ⟨i, hi, rfl⟩ := List.mem_map.mp h
  have := List.mem_range.mp hi
  omega
def stI (m : Nat) (ls : List Int) (q : List (List Int)) : List Sd := q.flatMap fun ln => (irng m).map fun i => ⟨ls, ln, i⟩
def stO (w : Wh) (m : Nat) (lines : List (List Int)) (p : List (List Int)) : List Sd := (p.filter (fitB w)).flatMap fun ls => stI m ls lines
def standsL (w : Wh) : List Sd := stO w (w.pat.toNat + 1) (rowsL w.sizes w.look.toNat) (rowsL (irng (w.room.toNat + 1)) w.ws.length)
theorem standsL_mem {w : Wh} {most : Int} (hw : GoodWh most w) : ∀ t ∈ standsL w, GoodSd w t := by
  intro t ht
  unfold standsL stO stI at ht
  obtain ⟨ls, hls, ht⟩ := List.mem_flatMap.mp ht
  obtain ⟨ln, hln, ht⟩ := List.mem_flatMap.mp ht
  obtain ⟨i, hi, rfl⟩ := List.mem_map.mp ht
  have h1 := rowsL_mem _ _ _ (List.mem_filter.mp hls).1
  have h2 := rowsL_mem _ _ _ hln
  have h3 := irng_mem hi
  have hr := hw.room
  have hp := hw.pat
  have hlk := hw.look
  refine ⟨h1.1, fun x hx => ?_, ?_, h2.2, ?_⟩
  · have := irng_mem (h1.2 x hx); omega
  · have := h2.1
    show (ln.length : Int) = w.look
    omega
  · show 0 ≤ i ∧ i ≤ w.pat
    omega
theorem cut_dropN {α : Type} (xs : List α) (n : Nat) : cutL xs (some (n : Int)) none = xs.drop n := by
  unfold cutL
  rw [HT.sIx_none, HT.sIx_nat]
  by_cases h : n ≤ xs.length
  · rw [Nat.min_eq_left h]; exact List.take_of_length_le (by simp)
  · rw [Nat.min_eq_right (by omega), List.drop_of_length_le (Nat.le_refl _), List.drop_of_length_le (by omega)]; simp
theorem nk_ints : ∀ ns : List Int, keyD.keyDs (ns.map .int) = some (ns.map NestedKey.num)
  | [] => rfl
  | n :: ns => by
    show (match keyD (.int n), keyD.keyDs (ns.map .int) with | some k, some ks => some (k :: ks) | _, _ => none) = _
    rw [nk_ints ns]
    rfl
theorem nk_iT (ns : List Int) : keyD (iT ns) = some (.tup (ns.map NestedKey.num)) := by
  show (keyD.keyDs (ns.map .int)).map NestedKey.tup = _
  rw [nk_ints]
  rfl
theorem nd_ints : ∀ ns : List Int, NestedKey.depthAll (ns.map NestedKey.num) = 0
  | [] => rfl
  | n :: ns => by
    show max (NestedKey.depth (.num n)) (NestedKey.depthAll (ns.map NestedKey.num)) = 0
    rw [nd_ints ns]
    rfl
theorem num_inj : ∀ {a b : List Int}, a.map NestedKey.num = b.map NestedKey.num → a = b
  | [], [], _ => rfl
  | [], _ :: _, h => by simp at h
  | _ :: _, [], h => by simp at h
  | x :: xs, y :: ys, h => by
    rw [List.map_cons, List.map_cons] at h
    injection h with h1 h2
    injection h1 with h1
    rw [h1, num_inj h2]
def sdKey (t : Sd) : NestedKey := .tup [.tup (t.ls.map NestedKey.num), .tup (t.ln.map NestedKey.num), .num t.wt]
theorem sd_keyD (t : Sd) : keyD t.d = some (sdKey t) := by
  show (match keyD (iT t.ls), keyD.keyDs [iT t.ln, .int t.wt] with | some k, some ks => some (k :: ks) | _, _ => none).map NestedKey.tup = _
  have e : keyD.keyDs [iT t.ln, .int t.wt] = some [.tup (t.ln.map NestedKey.num), .num t.wt] := by
    show (match keyD (iT t.ln), keyD.keyDs [.int t.wt] with | some k, some ks => some (k :: ks) | _, _ => none) = _
    rw [nk_iT]
    rfl
  rw [nk_iT, e]
  rfl
theorem sd_kdepth (t : Sd) : (sdKey t).depth = 2 := by
  unfold sdKey
  simp only [NestedKey.depth, NestedKey.depthAll, nd_ints]
  rfl
theorem sdKey_inj {a b : Sd} (h : sdKey a = sdKey b) : a = b := by
  unfold sdKey at h
  injection h with h
  injection h with h1 h
  injection h with h2 h
  injection h with h3 _
  injection h1 with h1
  injection h2 with h2
  injection h3 with h3
  have h1 := num_inj h1
  have h2 := num_inj h2
  obtain ⟨a1, a2, a3⟩ := a
  obtain ⟨b1, b2, b3⟩ := b
  simp only at h1 h2 h3
  rw [h1, h2, h3]
theorem sdE : KEnc Sd.d sdKey := ⟨fun t => by
  show (match keyD t.d with | some k => if k.depth ≤ 8 then some k else none | none => none) = _
  rw [sd_keyD]
  show (if (sdKey t).depth ≤ 8 then some (sdKey t) else none) = _
  rw [if_pos (by rw [sd_kdepth]; decide)], fun _ _ h => sdKey_inj h⟩
def irg (n : Nat) : List Int := (List.range n).map fun (i : Nat) => (i : Int)
theorem irg_len (n : Nat) : (irg n).length = n := by unfold irg; simp
theorem irg_mem {n : Nat} {x : Int} (h0 : 0 ≤ x) (h1 : x < n) : x ∈ irg n := List.mem_map.mpr ⟨x.toNat, List.mem_range.mpr (by omega), by omega⟩
theorem rowsL_all (items : List Int) : ∀ n (row : List Int), row.length = n → (∀ x ∈ row, x ∈ items) → row ∈ rowsL items n
  | 0, row, h, _ => by rw [List.length_eq_zero_iff.mp h]; exact List.mem_singleton.mpr rfl
  | n + 1, row, h, hm => by
    have hne : row ≠ [] := fun e => by rw [e] at h; cases h
    rw [rowsL]
    refine List.mem_flatMap.mpr ⟨row.dropLast, rowsL_all items n _ (by rw [List.length_dropLast]; omega) (fun x hx => hm x (List.dropLast_subset row hx)), List.mem_map.mpr ⟨row.getLast hne, hm _ (List.getLast_mem hne), List.dropLast_concat_getLast hne⟩⟩
def boxL (w : Wh) : List Sd := (irg (w.pat.toNat + 1)).flatMap fun i => (rowsL (irg (w.room.toNat + 1)) w.ws.length).flatMap fun ls => (rowsL w.sizes w.look.toNat).map fun ln => ⟨ls, ln, i⟩
theorem box_len {w : Wh} {most : Int} (hw : GoodWh most w) : ((boxL w).length : Int) ≤ most := by
  have hr := hw.room
  have hp := hw.pat
  have e : (boxL w).length = (w.pat.toNat + 1) * ((w.room.toNat + 1) ^ w.ws.length * w.sizes.length ^ w.look.toNat) := by
    unfold boxL
    rw [List.length_flatMap, List.map_congr_left (g := fun _ => (w.room.toNat + 1) ^ w.ws.length * w.sizes.length ^ w.look.toNat) (fun i _ => by
      rw [List.length_flatMap, List.map_congr_left (g := fun _ => w.sizes.length ^ w.look.toNat) (fun ls _ => by rw [List.length_map, rowsL_len]), List.map_const', List.sum_replicate_nat, rowsL_len, irg_len]), List.map_const', List.sum_replicate_nat, irg_len]
  have h := hw.cnt
  unfold cntL at h
  rw [e]
  refine Int.le_trans (Int.le_of_eq ?_) h
  rw [Int.natCast_mul, Int.natCast_mul, Int.natCast_pow, Int.natCast_pow, Int.mul_assoc, show ((w.pat.toNat + 1 : Nat) : Int) = w.pat + 1 by omega, show ((w.room.toNat + 1 : Nat) : Int) = w.room + 1 by omega]
theorem box_mem {w : Wh} {most : Int} (hw : GoodWh most w) {t : Sd} (h : GoodSd w t) : t ∈ boxL w := by
  have hr := hw.room
  have hp := hw.pat
  have hk := h.look
  have ht := h.wt
  refine List.mem_flatMap.mpr ⟨t.wt, irg_mem ht.1 (by omega), List.mem_flatMap.mpr ⟨t.ls, rowsL_all _ _ _ h.n (fun x hx => ?_), List.mem_map.mpr ⟨t.ln, rowsL_all _ _ _ (by omega) h.ln, rfl⟩⟩⟩
  have := h.ls x hx
  exact irg_mem this.1 (by omega)
theorem good_len {w : Wh} {most : Int} (hw : GoodWh most w) {l : List Sd} (hn : l.Nodup) (h : ∀ t ∈ l, GoodSd w t) : (l.length : Int) ≤ most := by
  have h1 := nodup_len hn fun t ht => box_mem hw (h t ht)
  have h2 := box_len hw
  omega
abbrev Pk := Sd × Int
abbrev Sk := List (Pk × Unit)
def inS (f : Sk) (p : Pk) : Prop := (p, ()) ∈ f
theorem putS_of {f : Sk} {r : Pk} {p : Pk × Unit} (h : p ∈ putK f r ()) : p.1 = r ∨ p ∈ f := by
  rcases mem_putK h with h | h
  · exact .inl (by rw [h])
  · exact .inr h.1
/-- keys in bounds -/
structure SeeOk (w : Wh) (j : Int) (f : Sk) : Prop where
  nod : (f.map (·.1)).Nodup
  good : ∀ p ∈ f, GoodSd w p.1.1 ∧ 0 ≤ p.1.2 ∧ p.1.2 ≤ j
theorem SeeOk.put {w : Wh} {j : Int} {f : Sk} (h : SeeOk w j f) {r : Pk} (hr : GoodSd w r.1 ∧ 0 ≤ r.2 ∧ r.2 ≤ j) : SeeOk w j (putK f r ()) := ⟨putK_nodup r () h.nod, fun p hp => by
  rcases putS_of hp with e | e
  · rw [e]; exact hr
  · exact h.good p e⟩
theorem SeeOk.len {w : Wh} {most j : Int} (hw : GoodWh most w) (hm : most ≤ 2000) (hj : j ≤ 200) {f : Sk} (h : SeeOk w j f) : f.length ≤ 402000 := by
  have h1 := nodup_len h.nod (m := (boxL w).flatMap fun t => (irg 201).map fun u => (t, u)) fun x hx => by
    obtain ⟨p, hp, rfl⟩ := List.mem_map.mp hx
    obtain ⟨g1, g2, g3⟩ := h.good p hp
    exact List.mem_flatMap.mpr ⟨p.1.1, box_mem hw g1, List.mem_map.mpr ⟨p.1.2, irg_mem g2 (by omega), rfl⟩⟩
  have h2 := box_len hw
  have e : ((boxL w).flatMap fun t => (irg 201).map fun u => (t, u)).length = (boxL w).length * 201 := by
    rw [List.length_flatMap, List.map_congr_left (g := fun _ => 201) (fun t _ => by rw [List.length_map, irg_len]), List.map_const', List.sum_replicate_nat]
  rw [e, List.length_map] at h1
  have : (boxL w).length ≤ 2000 := by omega
  have := Nat.mul_le_mul_right 201 this
  omega
def lostB (w : Wh) : Nat → Sd → Bool
  | 0, _ => false
  | n + 1, t => (deedsB w t).all fun b => (allL w t b).any fun u => lostB w n u
theorem lost_mono {w : Wh} : ∀ {n : Nat} {t : Sd}, lostB w n t = true → lostB w (n + 1) t = true
  | 0, _, h => by cases h
  | n + 1, t, h => by
    rw [lostB, List.all_eq_true] at h ⊢
    intro b hb
    obtain ⟨u, hu, e⟩ := List.any_eq_true.mp (h b hb)
    exact List.any_eq_true.mpr ⟨u, hu, lost_mono e⟩
theorem lost_le {w : Wh} {n m : Nat} {t : Sd} (h : lostB w n t = true) (hm : n ≤ m) : lostB w m t = true := by
  induction hm with
  | refl => exact h
  | step _ ih => exact lost_mono ih
theorem lost_at {w : Wh} {t : Sd} : ∀ {n : Nat}, lostB w n t = true → ∃ k, k < n ∧ lostB w (k + 1) t = true ∧ lostB w k t = false
  | 0, h => by cases h
  | n + 1, h => by
    cases e : lostB w n t with
    | false => exact ⟨n, Nat.lt_succ_self _, h, e⟩
    | true =>
      obtain ⟨k, hk, z⟩ := lost_at e
      exact ⟨k, Nat.lt_succ_of_lt hk, z⟩
theorem lost_one {w : Wh} {t : Sd} {j k : Nat} (h1 : lostB w (j + 1) t = true) (h2 : lostB w j t = false) (h3 : lostB w (k + 1) t = true) (h4 : lostB w k t = false) : j = k := by
  rcases Nat.lt_trichotomy j k with h | h | h
  · rw [lost_le h1 h] at h4; cases h4
  · exact h
  · rw [lost_le h3 h] at h2; cases h2
theorem getK_put {κ β : Type} [DecidableEq κ] (l : List (κ × β)) (k k' : κ) (v : β) : getK (putK l k v) k' = if k' = k then some v else getK l k' := by
  unfold putK
  split
  · rename_i hs
    have e1 : ((fun p : κ × β => decide (p.1 = k')) ∘ fun p : κ × β => if p.1 = k then (p.1, v) else p) = fun p => decide (p.1 = k') := by
      funext p
      show decide ((if p.1 = k then (p.1, v) else p).1 = k') = _
      by_cases h : p.1 = k
      · rw [if_pos h]
      · rw [if_neg h]
    unfold getK
    rw [List.find?_map, e1]
    cases e : l.find? fun p => decide (p.1 = k') with
    | none =>
      split
      · rename_i h
        subst h
        unfold getK at hs
        rw [e] at hs; cases hs
      · rfl
    | some p =>
      have h2 := List.find?_some e
      have h2 : p.1 = k' := of_decide_eq_true h2
      show some (if p.1 = k then (p.1, v) else p).2 = _
      by_cases h : k' = k
      · rw [if_pos h, if_pos (h2.trans h)]
      · rw [if_neg h, if_neg fun z => h (h2.symm.trans z)]
        rfl
  · rename_i hs
    unfold getK at hs ⊢
    rw [List.find?_append]
    cases e : l.find? fun p => decide (p.1 = k') with
    | none =>
      rw [Option.none_or]
      by_cases h : k' = k
      · rw [if_pos h, List.find?_cons_of_pos (by simpa using h.symm)]; rfl
      · rw [if_neg h, List.find?_cons_of_neg (by simpa using fun z => h z.symm)]; rfl
    | some p =>
      rw [if_neg fun z => by subst z; rw [e] at hs; exact hs rfl]
      rfl
structure GoodWhS (w : Wh) : Prop where
  all : ∀ t ∈ standsL w, ∀ b ∈ deedsB w t, ∀ u ∈ allL w t b, u ∈ standsL w
theorem nod_filter {α : Type} {l : List α} (p : α → Bool) (h : l.Nodup) : (l.filter p).Nodup := List.Pairwise.filter p h
theorem irng_pw (n : Nat) : (irng n).Pairwise (· < ·) := by
  unfold irng
  rw [List.pairwise_map]
  exact List.pairwise_lt_range.imp fun h => by omega
theorem irng_has {n : Nat} {x : Int} (h0 : 0 ≤ x) (h1 : x < n) : x ∈ irng n := List.mem_map.mpr ⟨x.toNat, List.mem_range.mpr (by omega), by omega⟩
theorem rowsL_nod {items : List Int} (h : items.Pairwise (· < ·)) (n : Nat) : (rowsL items n).Nodup := (rows_asc h n).imp fun h e => by
  subst e
  exact List.lt_irrefl _ h
theorem nod_flat {α β : Type} {f : α → List β} : ∀ {l : List α}, l.Nodup → (∀ a ∈ l, (f a).Nodup) → (∀ a ∈ l, ∀ b ∈ l, ∀ x, x ∈ f a → x ∈ f b → a = b) → (l.flatMap f).Nodup
  | [], _, _, _ => List.nodup_nil
  | a :: l, hn, h1, h2 => by
    rw [List.nodup_cons] at hn
    rw [List.flatMap_cons, List.nodup_append]
    refine ⟨h1 a (.head _), nod_flat hn.2 (fun b hb => h1 b (.tail _ hb)) (fun b hb c hc => h2 b (.tail _ hb) c (.tail _ hc)), fun x hx y hy e => ?_⟩
    subst e
    obtain ⟨b, hb, hy⟩ := List.mem_flatMap.mp hy
    have := h2 a (.head _) b (.tail _ hb) x hx hy
    exact hn.1 (this ▸ hb)
theorem nod_map {α β : Type} {f : α → β} (hi : ∀ a b, f a = f b → a = b) {l : List α} (h : l.Nodup) : (l.map f).Nodup := by
  unfold List.Nodup
  rw [List.pairwise_map]
  exact List.Pairwise.imp (fun h e => h (hi _ _ e)) h
theorem standsL_iff {w : Wh} {t : Sd} : t ∈ standsL w ↔ (t.ls ∈ rowsL (irng (w.room.toNat + 1)) w.ws.length ∧ fitB w t.ls = true) ∧ t.ln ∈ rowsL w.sizes w.look.toNat ∧ t.wt ∈ irng (w.pat.toNat + 1) := by
  unfold standsL stO stI
  rw [List.mem_flatMap]
  constructor
  · rintro ⟨ls, h1, h⟩
    obtain ⟨ln, h2, h⟩ := List.mem_flatMap.mp h
    obtain ⟨i, h3, rfl⟩ := List.mem_map.mp h
    exact ⟨List.mem_filter.mp h1, h2, h3⟩
  · rintro ⟨h1, h2, h3⟩
    exact ⟨t.ls, List.mem_filter.mpr h1, List.mem_flatMap.mpr ⟨t.ln, h2, List.mem_map.mpr ⟨t.wt, h3, rfl⟩⟩⟩
theorem standsL_nod {w : Wh} {most : Int} (hw : GoodWh most w) : (standsL w).Nodup := by
  unfold standsL stO
  refine nod_flat (nod_filter _ (rowsL_nod (irng_pw _) _)) (fun ls _ => ?_) fun a _ b _ x hx hy => ?_
  · unfold stI
    refine nod_flat (rowsL_nod hw.asc _) (fun ln _ => nod_map (fun a b e => by injection e) ((irng_pw _).imp fun h e => by omega)) fun a _ b _ x hx hy => ?_
    obtain ⟨i, _, rfl⟩ := List.mem_map.mp hx
    obtain ⟨j, _, e⟩ := List.mem_map.mp hy
    injection e with _ e
    exact e.symm
  · unfold stI at hx hy
    obtain ⟨_, _, hx⟩ := List.mem_flatMap.mp hx
    obtain ⟨_, _, hy⟩ := List.mem_flatMap.mp hy
    obtain ⟨i, _, rfl⟩ := List.mem_map.mp hx
    obtain ⟨j, _, e⟩ := List.mem_map.mp hy
    injection e with e
    exact e.symm
theorem standsL_ok {w : Wh} {most : Int} (hw : GoodWh most w) {t : Sd} (h : GoodSd w t) (hf : fitB w t.ls = true) : t ∈ standsL w := by
  have hr := hw.room
  have hp := hw.pat
  have hk := h.look
  have ht := h.wt
  refine standsL_iff.mpr ⟨⟨rowsL_all _ _ _ h.n (fun x hx => ?_), hf⟩, rowsL_all _ _ _ (by omega) h.ln, irng_has ht.1 (by omega)⟩
  have := h.ls x hx
  exact irng_has this.1 (by omega)
theorem standsL_cnt {w : Wh} {most : Int} (hw : GoodWh most w) : ((standsL w).length : Int) ≤ most := good_len hw (standsL_nod hw) (standsL_mem hw)
theorem behind_fit {w : Wh} {t u : Sd} {b : Bool} (h : u ∈ behindL w t b) : fitB w u.ls = true := by
  unfold behindL at h
  cases b with
  | true =>
    simp only [if_true] at h
    split at h
    · obtain ⟨z, _, rfl⟩ := List.mem_map.mp h
      assumption
    · cases h
  | false =>
    simp only [Bool.false_eq_true, if_false] at h
    split at h
    · rename_i hc
      rw [List.mem_singleton.mp h]
      first
        | exact hc.2
        | exact (Bool.and_eq_true _ _ ▸ hc).2
        | simp_all
    · cases h
theorem deeds_behind {w : Wh} {most : Int} (hw : GoodWh most w) {t : Sd} (ht : GoodSd w t) {b : Bool} (hb : b ∈ deedsB w t) : behindL w t b = allL w t b := by
  refine behind_all fun e => ?_
  have h1 := behind_may w t b hw ht
  rw [e, (List.mem_filter.mp hb).2] at h1
  cases h1
theorem goodS {w : Wh} {most : Int} (hw : GoodWh most w) : GoodWhS w := ⟨fun t ht b hb u hu => by
  have hg := standsL_mem hw t ht
  rw [← deeds_behind hw hg hb] at hu
  exact standsL_ok hw (behind_good w t b hw hg u hu) (behind_fit hu)⟩
theorem good_ne {w : Wh} {most : Int} (hw : GoodWh most w) {t : Sd} (h : GoodSd w t) : t.ls.length ≤ 1000 ∧ t.ln.length ≤ 1000 ∧ t.ls ≠ [] ∧ t.ln ≠ [] := by
  have h1 := h.n
  have h2 := h.look
  have h3 := hw.n
  have h4 := hw.look
  refine ⟨by omega, by omega, fun e => ?_, fun e => ?_⟩
  · rw [e] at h1; simp at h1; omega
  · rw [e] at h2; simp at h2; omega
theorem start_stand {w : Wh} {most : Int} (hw : GoodWh most w) {t : Sd} (h : t ∈ startsL w) : t ∈ standsL w := by
  have hg := starts_good w hw t h
  refine standsL_ok hw hg ?_
  unfold fitB
  rw [starts_up w hw t h, Bool.and_true]
  exact decide_eq_true ((maxL_le t.ls w.room (good_ne hw hg).2.2.1).mpr fun x hx => (hg.ls x hx).2)
theorem IsSd.good {w : Wh} {t : Sd} (h : IsSd w t) : GoodSd w t := ⟨h.n, h.ls, h.look, h.zs, h.wt⟩
def knT (ts : List Sd) : List (Sd × Unit) := ts.foldl (fun f t => putK f t ()) []
theorem knT_get : ∀ (ts : List Sd) (f : List (Sd × Unit)) (u : Sd), (getK (ts.foldl (fun f t => putK f t ()) f) u).isSome = (decide (u ∈ ts) || (getK f u).isSome)
  | [], f, u => by simp
  | t :: ts, f, u => by
    rw [List.foldl_cons, knT_get ts, getK_put]
    by_cases h : u = t
    · simp [h]
    · simp [h]
theorem knT_has (ts : List Sd) (u : Sd) : (getK (knT ts) u).isSome = decide (u ∈ ts) := by
  unfold knT
  rw [knT_get]
  simp [getK]
def yesD : Unit → PyData := fun _ => .bool true
theorem dAll_knT : ∀ (ts : List Sd) (f : List (Sd × Unit)), dAllN (encM Sd.d yesD f) (ts.map fun t => (t.d, PyData.bool true)) = encM Sd.d yesD (ts.foldl (fun f t => putK f t ()) f)
  | [], f => rfl
  | t :: ts, f => by
    show dAllN (match tupKey t.d with | some k => dPutN (encM Sd.d yesD f) t.d (.bool true) k | none => encM Sd.d yesD f) _ = _
    rw [sdE.tk]
    show dAllN (dPutN (encM Sd.d yesD f) t.d (yesD ()) (sdKey t)) _ = _
    rw [encM_put sdE]
    exact dAll_knT ts _
theorem pairs_knT : ∀ ts : List Sd, pairsN (ts.map fun t => PyData.tuple [t.d, .bool true]) = some (ts.map fun t => (t.d, PyData.bool true))
  | [] => rfl
  | t :: ts => by
    show (if (tupKey t.d).isSome then (pairsN _).map ((t.d, PyData.bool true) :: ·) else none) = _
    rw [sdE.tk, pairs_knT ts]
    rfl
open Classical in
/-- the rank of a stand: the last round in which it is not yet lost -/
noncomputable def rkO (w : Wh) (t : Sd) : Option Nat := if h : ∃ n, lostB w (n + 1) t = true ∧ lostB w n t = false then some (Classical.choose h) else none
theorem rkO_some {w : Wh} {t : Sd} {k : Nat} : rkO w t = some k ↔ lostB w (k + 1) t = true ∧ lostB w k t = false := by
  unfold rkO
  split
  · rename_i h
    have hc := Classical.choose_spec h
    constructor
    · intro e
      rw [← Option.some.inj e]
      exact hc
    · intro e
      rw [lost_one hc.1 hc.2 e.1 e.2]
  · rename_i h
    constructor
    · intro e; cases e
    · intro e; exact absurd ⟨k, e⟩ h
theorem rkO_lt {w : Wh} {t : Sd} {n : Nat} (h : lostB w n t = true) : ∃ k, k < n ∧ rkO w t = some k := by
  obtain ⟨k, hk, h1, h2⟩ := lost_at h
  exact ⟨k, hk, rkO_some.mpr ⟨h1, h2⟩⟩
theorem lost_less {w : Wh} {t : Sd} {k : Nat} (h : rkO w t = some k) {b : Bool} (hb : b ∈ deedsB w t) : ∃ u ∈ allL w t b, ∃ j, j < k ∧ rkO w u = some j := by
  have h1 := (rkO_some.mp h).1
  rw [lostB, List.all_eq_true] at h1
  obtain ⟨u, hu, z⟩ := List.any_eq_true.mp (h1 b hb)
  obtain ⟨j, hj, e⟩ := rkO_lt z
  exact ⟨u, hu, j, hj, e⟩
theorem sm_sdL {w : Wh} {most : Int} (hw : GoodWh most w) {ts : List Sd} (h : ∀ t ∈ ts, GoodSd w t) : Sm 3 (ts.length * 13) (.list (ts.map Sd.d)) := (sm_list (sl_all (b := 12) _ fun d hd => by
  obtain ⟨t, ht, rfl⟩ := List.mem_map.mp hd
  exact sm_sd hw (h t ht))).le (Nat.le_refl _) (by rw [List.length_map]; omega)
noncomputable def wstS (w : Wh) (t : Sd) (b : Option (Nat × Int)) (z : Int) : Option (Nat × Int) := match rkO w (afterL t true z) with
  | none => b
  | some k => match b with
    | none => some (k, z)
    | some (k0, z0) => if k < k0 then some (k, z) else some (k0, z0)
noncomputable def wstG (w : Wh) (t : Sd) (zs : List Int) : Option (Nat × Int) := zs.foldl (wstS w t) none
theorem wst_inv {w : Wh} {t : Sd} : ∀ (zs : List Int) (b : Option (Nat × Int)), (zs.foldl (wstS w t) b = none → b = none ∧ ∀ z ∈ zs, rkO w (afterL t true z) = none) ∧
    ∀ k z, zs.foldl (wstS w t) b = some (k, z) → (b = some (k, z) ∨ (z ∈ zs ∧ rkO w (afterL t true z) = some k)) ∧ (∀ k' z', b = some (k', z') → k ≤ k') ∧ ∀ z' ∈ zs, ∀ k', rkO w (afterL t true z') = some k' → k ≤ k'
  | [], b => by
    refine ⟨fun h => ⟨h, fun z h => (by cases h)⟩, fun k z h => ⟨.inl h, fun k' z' e => ?_, fun z h => (by cases h)⟩⟩
    have h : b = some (k, z) := h
    rw [h] at e
    cases e
    exact Nat.le_refl _
  | z1 :: zs, b => by
    rw [List.foldl_cons]
    obtain ⟨i1, i2⟩ := wst_inv (w := w) (t := t) zs (wstS w t b z1)
    cases e1 : rkO w (afterL t true z1) with
    | none =>
      have es : wstS w t b z1 = b := by
        unfold wstS
        rw [e1]
      rw [es] at i1 i2 ⊢
      refine ⟨fun h => ⟨(i1 h).1, fun z hz => ?_⟩, fun k z h => ?_⟩
      · rcases List.mem_cons.mp hz with rfl | hz
        · exact e1
        · exact (i1 h).2 z hz
      · obtain ⟨j1, j2, j3⟩ := i2 k z h
        refine ⟨j1.imp id fun q => ⟨.tail _ q.1, q.2⟩, j2, fun z' hz' k' e => ?_⟩
        rcases List.mem_cons.mp hz' with rfl | hz'
        · rw [e1] at e; cases e
        · exact j3 z' hz' k' e
    | some k1 =>
      have es : ∃ k2 z2, wstS w t b z1 = some (k2, z2) ∧ (b = some (k2, z2) ∨ (z2 = z1 ∧ k2 = k1)) ∧ k2 ≤ k1 ∧ ∀ k' z', b = some (k', z') → k2 ≤ k' := by
        unfold wstS
        rw [e1]
        cases b with
        | none => exact ⟨k1, z1, rfl, .inr ⟨rfl, rfl⟩, Nat.le_refl _, fun k' z' e => by cases e⟩
        | some q =>
          obtain ⟨k0, z0⟩ := q
          dsimp only
          by_cases h : k1 < k0
          · rw [if_pos h]
            exact ⟨k1, z1, rfl, .inr ⟨rfl, rfl⟩, Nat.le_refl _, fun k' z' e => by cases e; omega⟩
          · rw [if_neg h]
            exact ⟨k0, z0, rfl, .inl rfl, by omega, fun k' z' e => by cases e; omega⟩
      obtain ⟨k2, z2, es, c1, c2, c3⟩ := es
      rw [es] at i1 i2 ⊢
      refine ⟨fun h => (by have := (i1 h).1; cases this), fun k z h => ?_⟩
      obtain ⟨j1, j2, j3⟩ := i2 k z h
      have j4 := j2 k2 z2 rfl
      refine ⟨?_, fun k' z' e => Nat.le_trans j4 (c3 k' z' e), fun z' hz' k' e => ?_⟩
      · rcases j1 with j1 | j1
        · cases j1
          rcases c1 with c1 | ⟨rfl, rfl⟩
          · exact .inl c1
          · exact .inr ⟨.head _, e1⟩
        · exact .inr ⟨.tail _ j1.1, j1.2⟩
      · rcases List.mem_cons.mp hz' with rfl | hz'
        · rw [e1] at e; cases e; omega
        · exact j3 z' hz' k' e
noncomputable def wst (w : Wh) (t : Sd) : Int := ((wstG w t w.sizes).map (·.2)).getD 0
/-- the worst size: it is one, and leads to the least rank -/
theorem wst_ok {w : Wh} {t : Sd} {z0 : Int} {j : Nat} (hz : z0 ∈ w.sizes) (hj : rkO w (afterL t true z0) = some j) : ∃ k, wstG w t w.sizes = some (k, wst w t) ∧ wst w t ∈ w.sizes ∧ rkO w (afterL t true (wst w t)) = some k ∧ ∀ z' ∈ w.sizes, ∀ k', rkO w (afterL t true z') = some k' → k ≤ k' := by
  obtain ⟨i1, i2⟩ := wst_inv (w := w) (t := t) w.sizes none
  cases e : wstG w t w.sizes with
  | none =>
    have := (i1 e).2 z0 hz
    rw [hj] at this; cases this
  | some q =>
    obtain ⟨k, z⟩ := q
    have ew : wst w t = z := by
      unfold wst
      rw [e]; rfl
    obtain ⟨j1, _, j3⟩ := i2 k z e
    rw [ew]
    rcases j1 with j1 | j1
    · cases j1
    · exact ⟨k, rfl, j1.1, j1.2, j3⟩
def dldL (w : Wh) (t : Sd) (z : Int) : List Sd := (if mayB w t true = true then [afterL t true z] else []) ++ (if mayB w t false = true then [afterL t false 0] else [])
noncomputable def sizeOf_ (w : Wh) (t : Sd) : Int := if mayB w t true = true then wst w t else w.sizes.headD 0
/-- a lost stand: where it is led to by its size -/
theorem led_lost {w : Wh} {most : Int} (hw : GoodWh most w) {t : Sd} (ht : t ∈ standsL w) {k : Nat} (hk : rkO w t = some k) : ∀ u ∈ dldL w t (sizeOf_ w t), u ∈ standsL w ∧ ∃ j, j < k ∧ rkO w u = some j := by
  have hS := goodS hw
  intro u hu
  unfold dldL at hu
  rcases List.mem_append.mp hu with hu | hu
  · split at hu
    · rename_i hm
      have hb : true ∈ deedsB w t := List.mem_filter.mpr ⟨by simp, hm⟩
      rw [List.mem_singleton.mp hu]
      obtain ⟨u1, hu1, j, hj, e⟩ := lost_less hk hb
      obtain ⟨z1, hz1, rfl⟩ := List.mem_map.mp (show u1 ∈ w.sizes.map (afterL t true) from hu1)
      obtain ⟨k1, _, h2, h3, h4⟩ := wst_ok hz1 e
      unfold sizeOf_
      rw [if_pos hm]
      have := h4 z1 hz1 j e
      exact ⟨hS.all t ht true hb _ (List.mem_map.mpr ⟨_, h2, rfl⟩), k1, by omega, h3⟩
    · cases hu
  · split at hu
    · rename_i hm
      have hb : false ∈ deedsB w t := List.mem_filter.mpr ⟨by simp, hm⟩
      rw [List.mem_singleton.mp hu]
      obtain ⟨u1, hu1, j, hj, e⟩ := lost_less hk hb
      have e1 : u1 = afterL t false 0 := List.mem_singleton.mp hu1
      subst e1
      exact ⟨hS.all t ht false hb _ hu1, j, hj, e⟩
    · cases hu
structure DmI (w : Wh) (s0 : Sd) (k0 : Nat) (f : List (Sd × Int)) (wt : List Sd) : Prop where
  nod : (f.map (·.1)).Nodup
  ok : ∀ t, (t ∈ f.map (·.1) ∨ t ∈ wt) → t ∈ standsL w ∧ ∃ k, rkO w t = some k ∧ (t = s0 ∨ k < k0)
  sz : ∀ p ∈ f, p.2 = sizeOf_ w p.1
  cl : ∀ p ∈ f, ∀ u ∈ dldL w p.1 p.2, u ∈ f.map (·.1) ∨ u ∈ wt
  st : s0 ∈ f.map (·.1) ∨ s0 ∈ wt
theorem DmI.new {w : Wh} {most : Int} (hw : GoodWh most w) {s0 t : Sd} {k0 : Nat} (hk0 : rkO w s0 = some k0) {f : List (Sd × Int)} {wt : List Sd} (h : DmI w s0 k0 f (wt ++ [t])) (ht : t ∉ f.map (·.1)) : DmI w s0 k0 (f ++ [(t, sizeOf_ w t)]) (wt ++ dldL w t (sizeOf_ w t)) := by
  obtain ⟨ht1, k, hk, hk2⟩ := h.ok t (.inr (by simp))
  have hkk : k ≤ k0 := by
    rcases hk2 with rfl | e
    · rw [hk0] at hk
      have := Option.some.inj hk
      omega
    · omega
  have hl := led_lost hw ht1 hk
  have back : ∀ u, u ∈ wt ++ [t] → u ∈ (f ++ [(t, sizeOf_ w t)]).map (·.1) ∨ u ∈ wt ++ dldL w t (sizeOf_ w t) := fun u hu => by
    rcases List.mem_append.mp hu with hu | hu
    · exact .inr (List.mem_append_left _ hu)
    · rw [List.mem_singleton.mp hu]; exact .inl (by simp)
  have left : ∀ u, u ∈ f.map (·.1) → u ∈ (f ++ [(t, sizeOf_ w t)]).map (·.1) := fun u hu => by
    rw [List.map_append]; exact List.mem_append_left _ hu
  refine ⟨?_, fun u hu => ?_, fun p hp => ?_, fun p hp u hu => ?_, ?_⟩
  · rw [List.map_append, List.nodup_append]
    refine ⟨h.nod, by simp, fun a ha b hb e => ?_⟩
    have : b = t := by simpa using hb
    rw [e, this] at ha
    exact ht ha
  · rcases hu with hu | hu
    · rw [List.map_append] at hu
      rcases List.mem_append.mp hu with hu | hu
      · exact h.ok u (.inl hu)
      · have : u = t := by simpa using hu
        rw [this]
        exact ⟨ht1, k, hk, hk2⟩
    · rcases List.mem_append.mp hu with hu | hu
      · exact h.ok u (.inr (List.mem_append_left _ hu))
      · obtain ⟨h1, j, h2, h3⟩ := hl u hu
        exact ⟨h1, j, h3, .inr (by omega)⟩
  · rcases List.mem_append.mp hp with hp | hp
    · exact h.sz p hp
    · rw [List.mem_singleton.mp hp]
  · rcases List.mem_append.mp hp with hp | hp
    · rcases h.cl p hp u hu with c | c
      · exact .inl (left u c)
      · exact back u c
    · rw [List.mem_singleton.mp hp] at hu
      exact .inr (List.mem_append_right _ hu)
  · exact h.st.elim (fun c => .inl (left s0 c)) (back s0)
theorem knT_len : ∀ (ts : List Sd), (knT ts).length ≤ ts.length := fun ts => by
  have go : ∀ (ts : List Sd) (f : List (Sd × Unit)), (ts.foldl (fun f t => putK f t ()) f).length ≤ f.length + ts.length := fun ts => by
    induction ts with
    | nil => intro f; exact Nat.le_refl _
    | cons t ts ih =>
      intro f
      rw [List.foldl_cons, List.length_cons]
      have h1 := ih (putK f t ())
      have h2 : (putK f t ()).length ≤ f.length + 1 := by
        unfold putK
        split
        · rw [List.length_map]; omega
        · rw [List.length_append]; simp
      omega
  have := go ts []
  simpa [knT] using this
theorem knT_app (ts : List Sd) (t : Sd) : knT (ts ++ [t]) = putK (knT ts) t () := by
  unfold knT
  rw [List.foldl_append]
  rfl
/-- the same game -/
structure SameW (w w' : Wh) : Prop where
  room : w'.room = w.room
  sizes : w'.sizes = w.sizes
  look : w'.look = w.look
  pat : w'.pat = w.pat
  n : w'.ws.length = w.ws.length
  up : ∀ ls, w'.up ls = w.up ls
theorem SameW.symm {w w' : Wh} (h : SameW w w') : SameW w' w := ⟨h.room.symm, h.sizes.symm, h.look.symm, h.pat.symm, h.n.symm, fun ls => (h.up ls).symm⟩
def hd0 (t : Sd) : Int := t.ls.headD 0
/-- the deeds of rules at a stand -/
def actsR (w : Wh) (rs : List (List Ln)) (t : Sd) : List (Option Bool) := rs.map (deedR w t)
def allA (b : Bool) (as : List (Option Bool)) : Bool := as.all fun a => decide (a = some b)
def wlkN (w : Wh) (rs : List (List Ln)) : Nat → Sd → Sd
  | 0, t => t
  | n + 1, t => if allA false (actsR w rs t) = true then wlkN w rs n (afterL t false 0) else t
/-- where they turn to -/
def wlk (w : Wh) (rs : List (List Ln)) (t : Sd) : Sd := wlkN w rs (w.pat - t.wt).toNat t
theorem allA_may {w : Wh} {rs : List (List Ln)} (hr : rs ≠ []) {t : Sd} {b : Bool} (h : allA b (actsR w rs t) = true) : mayB w t b = true := by
  obtain ⟨r, rest, rfl⟩ := List.exists_cons_of_ne_nil hr
  have h := List.all_eq_true.mp h (deedR w t r) (List.mem_cons_self ..)
  exact deed_may (of_decide_eq_true h)
theorem allA_not {w : Wh} {rs : List (List Ln)} (hr : rs ≠ []) {t : Sd} (h : allA true (actsR w rs t) = true) : allA false (actsR w rs t) = false := by
  obtain ⟨r, rest, rfl⟩ := List.exists_cons_of_ne_nil hr
  have h := of_decide_eq_true (List.all_eq_true.mp h (deedR w t r) (List.mem_cons_self ..))
  cases hf : allA false (actsR w (r :: rest) t) with
  | false => rfl
  | true =>
    have h2 := of_decide_eq_true (List.all_eq_true.mp hf (deedR w t r) (List.mem_cons_self ..))
    rw [h] at h2
    cases h2
theorem wlk_stop {w : Wh} {rs : List (List Ln)} {t : Sd} (h : allA false (actsR w rs t) = false) : wlk w rs t = t := by
  unfold wlk
  cases (w.pat - t.wt).toNat with
  | zero => rfl
  | succ n =>
    show (if allA false (actsR w rs t) = true then _ else t) = t
    rw [h]
    rfl
theorem wlk_turn {w : Wh} {rs : List (List Ln)} (hr : rs ≠ []) {t : Sd} (h : allA false (actsR w rs t) = true) : wlk w rs t = wlk w rs (afterL t false 0) := by
  have hm := may_turn (allA_may hr h)
  unfold wlk
  have e1 : (w.pat - t.wt).toNat = (w.pat - (t.wt + 1)).toNat + 1 := by omega
  rw [e1]
  show (if allA false (actsR w rs t) = true then wlkN w rs (w.pat - (t.wt + 1)).toNat (afterL t false 0) else t) = wlkN w rs (w.pat - (afterL t false 0).wt).toNat (afterL t false 0)
  rw [if_pos h]
  rfl
theorem wlk_ind {w : Wh} {rs : List (List Ln)} (hr : rs ≠ []) {P : Sd → Prop} (h0 : ∀ t, allA false (actsR w rs t) = false → P t) (h1 : ∀ t, allA false (actsR w rs t) = true → P (afterL t false 0) → P t) (t : Sd) : P t := by
  have key : ∀ (n : Nat) (t : Sd), (w.pat - t.wt).toNat = n → P t := by
    intro n
    induction n with
    | zero =>
      intro t e
      refine h0 t ?_
      cases h : allA false (actsR w rs t) with
      | false => rfl
      | true => have := may_turn (allA_may hr h); omega
    | succ n ih =>
      intro t e
      cases h : allA false (actsR w rs t) with
      | false => exact h0 t h
      | true => exact h1 t h (ih _ (by show (w.pat - (t.wt + 1)).toNat = n; omega))
  exact key _ t rfl
theorem may_stand {w : Wh} {most : Int} (hw : GoodWh most w) {t : Sd} (h : t ∈ standsL w) {b : Bool} (hm : mayB w t b = true) {z : Int} (hz : b = true → z ∈ w.sizes) : afterL t b z ∈ standsL w := by
  refine (goodS hw).all t h b (List.mem_filter.mpr ⟨by cases b <;> simp, hm⟩) _ ?_
  unfold allL
  cases b with
  | true => exact List.mem_map.mpr ⟨z, hz rfl, rfl⟩
  | false => exact List.mem_singleton.mpr rfl
theorem wlk_stand {w : Wh} {rs : List (List Ln)} {most : Int} (hw : GoodWh most w) (hr : rs ≠ []) {t : Sd} (h : t ∈ standsL w) : wlk w rs t ∈ standsL w := by
  revert h
  exact wlk_ind (P := fun t => t ∈ standsL w → wlk w rs t ∈ standsL w) hr (fun t h ht => by rw [wlk_stop h]; exact ht) (fun t h ih ht => by rw [wlk_turn hr h]; exact ih (may_stand hw ht (allA_may hr h) fun z => by cases z)) t
/-- a stand to which a queue leads, behind a boarding -/
inductive ArrQ (w : Wh) (rs : List (List Ln)) : Sd → List Int → Prop
  | zero {t : Sd} (h : t ∈ startsL w) : ArrQ w rs t t.ln
  | succ {t : Sd} {q : List Int} {z : Int} (h : ArrQ w rs t q) (ha : allA true (actsR w rs (wlk w rs t)) = true) (hz : z ∈ w.sizes) : ArrQ w rs (afterL (wlk w rs t) true z) (q ++ [z])
theorem arr_stand {w : Wh} {rs : List (List Ln)} {most : Int} (hw : GoodWh most w) (hr : rs ≠ []) {t : Sd} {q : List Int} (h : ArrQ w rs t q) : t ∈ standsL w := by
  induction h with
  | zero h => exact start_stand hw h
  | succ h ha hz ih => exact may_stand hw (wlk_stand hw hr ih) (allA_may hr ha) fun _ => hz
theorem arr_len {w : Wh} {rs : List (List Ln)} {most : Int} (hw : GoodWh most w) {t : Sd} {q : List Int} (h : ArrQ w rs t q) : w.look.toNat ≤ q.length := by
  induction h with
  | zero h => have := (starts_good w hw _ h).look; omega
  | succ h ha hz ih => rw [List.length_append]; omega
theorem arr_zs {w : Wh} {rs : List (List Ln)} {most : Int} (hw : GoodWh most w) {t : Sd} {q : List Int} (h : ArrQ w rs t q) : ∀ z ∈ q, z ∈ w.sizes := by
  induction h with
  | zero h => exact (starts_good w hw _ h).ln
  | succ h ha hz ih =>
    intro y hy
    rcases List.mem_append.mp hy with hy | hy
    · exact ih y hy
    · rw [List.mem_singleton.mp hy]; exact hz
structure BfP (w : Wh) (rs : List (List Ln)) (S : List (Option Bool) → Bool) (n : Nat) (fresh : List (Sd × List Int)) (ks : List Sd) : Prop where
  fr : ∀ p ∈ fresh, ArrQ w rs p.1 p.2 ∧ p.2.length = w.look.toNat + n
  inS : ∀ t ∈ ks, t ∈ standsL w
  nod : ks.Nodup
  st : ∀ t ∈ startsL w, t ∈ ks
  kn : ∀ t q, ArrQ w rs t q → q.length ≤ w.look.toNat + n → t ∈ ks
  don : ∀ t ∈ ks, (∃ q, (t, q) ∈ fresh) ∨ (S (actsR w rs (wlk w rs t)) = false ∧ (allA true (actsR w rs (wlk w rs t)) = true → ∀ z ∈ w.sizes, afterL (wlk w rs t) true z ∈ ks))
  less : ∀ t q, ArrQ w rs t q → q.length < w.look.toNat + n → S (actsR w rs (wlk w rs t)) = false
  cnt : n + fresh.length ≤ ks.length
/-- .. within a level: pre has been gone through -/
structure BfL (w : Wh) (rs : List (List Ln)) (S : List (Option Bool) → Bool) (n : Nat) (ks0 : List Sd) (pre : List (Sd × List Int)) (later : List (Sd × List Int)) (ks : List Sd) : Prop where
  la : ∀ p ∈ later, ArrQ w rs p.1 p.2 ∧ p.2.length = w.look.toNat + n + 1
  inS : ∀ t ∈ ks, t ∈ standsL w
  nod : ks.Nodup
  sub : ∀ t ∈ ks0, t ∈ ks
  new : ∀ t ∈ ks, t ∈ ks0 ∨ ∃ q, (t, q) ∈ later
  don : ∀ p ∈ pre, S (actsR w rs (wlk w rs p.1)) = false ∧ (allA true (actsR w rs (wlk w rs p.1)) = true → ∀ z ∈ w.sizes, afterL (wlk w rs p.1) true z ∈ ks)
  cnt : ks.length = ks0.length + later.length
theorem bf_start {w : Wh} {rs : List (List Ln)} {most : Int} (hw : GoodWh most w) (S : List (Option Bool) → Bool) : BfP w rs S 0 ((startsL w).map fun t => (t, t.ln)) (startsL w) := by
  refine ⟨fun p hp => ?_, fun t ht => start_stand hw ht, ?_, fun t ht => ht, fun t q h hl => ?_, fun t ht => .inl ⟨t.ln, List.mem_map.mpr ⟨t, ht, rfl⟩⟩, fun t q h hl => ?_, by rw [List.length_map]; omega⟩
  · obtain ⟨t, ht, rfl⟩ := List.mem_map.mp hp
    have := (starts_good w hw _ ht).look
    exact ⟨.zero ht, by show t.ln.length = _; omega⟩
  · exact nod_map (fun a b e => by injection e) (rowsL_nod hw.asc _)
  · cases h with
    | zero h => exact h
    | succ h ha hz =>
      have := arr_len hw h
      rw [List.length_append, List.length_singleton] at hl
      omega
  · have := arr_len hw h
    omega
theorem bf_level {w : Wh} {rs : List (List Ln)} {S : List (Option Bool) → Bool} {n : Nat} {fresh : List (Sd × List Int)} {ks : List Sd} (h : BfP w rs S n fresh ks) : BfL w rs S n ks [] [] ks :=
  ⟨fun p hp => (by cases hp), h.inS, h.nod, fun _ ht => ht, fun _ ht => .inl ht, fun p hp => (by cases hp), rfl⟩
theorem bf_next {w : Wh} {rs : List (List Ln)} {S : List (Option Bool) → Bool} {n : Nat} {fresh later : List (Sd × List Int)} {ks ks' : List Sd} (hne : fresh ≠ []) (h : BfP w rs S n fresh ks) (k : BfL w rs S n ks fresh later ks') : BfP w rs S (n + 1) later ks' := by
  have old : ∀ t ∈ ks, S (actsR w rs (wlk w rs t)) = false ∧ (allA true (actsR w rs (wlk w rs t)) = true → ∀ z ∈ w.sizes, afterL (wlk w rs t) true z ∈ ks') := fun t ht => by
    rcases h.don t ht with ⟨q, hq⟩ | ⟨h1, h2⟩
    · have e := k.don (t, q) hq
      dsimp only at e
      exact e
    · exact ⟨h1, fun ha z hz => k.sub _ (h2 ha z hz)⟩
  refine ⟨fun p hp => ⟨(k.la p hp).1, by have := (k.la p hp).2; omega⟩, k.inS, k.nod, fun t ht => k.sub _ (h.st t ht), fun t q ha hl => ?_, fun t ht => ?_, fun t q ha hl => ?_, ?_⟩
  · rcases Nat.lt_or_ge (w.look.toNat + n) q.length with hlt | hle
    · cases ha with
      | zero ha => exact k.sub _ (h.st t ha)
      | succ ha hal hz =>
        rw [List.length_append, List.length_singleton] at hl
        exact (old _ (h.kn _ _ ha (by omega))).2 hal _ hz
    · exact k.sub _ (h.kn t q ha hle)
  · rcases k.new t ht with hk | hk
    · exact .inr (old t hk)
    · exact .inl hk
  · exact (old t (h.kn t q ha (by omega))).1
  · have := k.cnt
    have := h.cnt
    have := List.length_pos_iff.mpr hne
    omega
theorem bf_none {w : Wh} {rs : List (List Ln)} {S : List (Option Bool) → Bool} {n : Nat} {ks : List Sd} (h : BfP w rs S n [] ks) : ∀ t q, ArrQ w rs t q → S (actsR w rs (wlk w rs t)) = false := by
  have key : ∀ t q, ArrQ w rs t q → t ∈ ks := by
    intro t q ha
    induction ha with
    | zero ha => exact h.st _ ha
    | succ ha hal hz ih =>
      rcases h.don _ ih with ⟨q, hq⟩ | ⟨h1, h2⟩
      · cases hq
      · exact h2 hal _ hz
  intro t q ha
  rcases h.don _ (key t q ha) with ⟨q, hq⟩ | ⟨h1, _⟩
  · cases hq
  · exact h1
structure BfX (w : Wh) (rs : List (List Ln)) (S : List (Option Bool) → Bool) (n : Nat) (fresh : List Sd) (ks : List Sd) : Prop where
  fr : ∀ t ∈ fresh, ∃ q, ArrQ w rs t q ∧ q.length = w.look.toNat + n
  inS : ∀ t ∈ ks, t ∈ standsL w
  nod : ks.Nodup
  clo : ∀ t ∈ ks, S (actsR w rs t) = false ∧ (allA false (actsR w rs t) = true → afterL t false 0 ∈ ks) ∧ (allA true (actsR w rs t) = true → ∀ z ∈ w.sizes, afterL t true z ∈ ks ∨ afterL t true z ∈ fresh)
  st : ∀ t ∈ startsL w, t ∈ ks ∨ t ∈ fresh
  kn : ∀ t q, ArrQ w rs t q → q.length < w.look.toNat + n → t ∈ ks
  eq : ∀ t q, ArrQ w rs t q → q.length = w.look.toNat + n → t ∈ ks ∨ t ∈ fresh
structure BfY (w : Wh) (rs : List (List Ln)) (S : List (Option Bool) → Bool) (n : Nat) (fresh ks0 pre later ks : List Sd) (cur : Option Sd) : Prop where
  la : ∀ t ∈ later, ∃ q, ArrQ w rs t q ∧ q.length = w.look.toNat + n + 1
  inS : ∀ t ∈ ks, t ∈ standsL w
  nod : ks.Nodup
  sub : ∀ t ∈ ks0, t ∈ ks
  pre : ∀ t ∈ pre, t ∈ ks ∨ some t = cur
  clo : ∀ t ∈ ks, S (actsR w rs t) = false ∧ (allA false (actsR w rs t) = true → afterL t false 0 ∈ ks ∨ some (afterL t false 0) = cur) ∧ (allA true (actsR w rs t) = true → ∀ z ∈ w.sizes, afterL t true z ∈ ks ∨ afterL t true z ∈ fresh ∨ afterL t true z ∈ later)
  cnt : later.length + 4 * ks0.length ≤ 4 * ks.length
/-- a stand on the way from an arrival of the level -/
def OnWay (w : Wh) (rs : List (List Ln)) (n : Nat) (u : Sd) : Prop := u ∈ standsL w ∧ ∃ a q, ArrQ w rs a q ∧ q.length = w.look.toNat + n ∧ wlk w rs a = wlk w rs u
theorem bx_start {w : Wh} {rs : List (List Ln)} {most : Int} (hw : GoodWh most w) (S : List (Option Bool) → Bool) : BfX w rs S 0 (startsL w) [] := by
  refine ⟨fun t ht => ⟨t.ln, .zero ht, ?_⟩, fun t ht => (by cases ht), List.nodup_nil, fun t ht => (by cases ht), fun t ht => .inr ht, fun t q h hl => ?_, fun t q h hl => ?_⟩
  · have := (starts_good w hw _ ht).look
    omega
  · have := arr_len hw h
    omega
  · cases h with
    | zero h => exact .inr h
    | succ h ha hz =>
      have := arr_len hw h
      rw [List.length_append, List.length_singleton] at hl
      omega
theorem bx_wlk {w : Wh} {rs : List (List Ln)} {ks : List Sd} (hr : rs ≠ []) (h : ∀ t ∈ ks, allA false (actsR w rs t) = true → afterL t false 0 ∈ ks) (t : Sd) : t ∈ ks → wlk w rs t ∈ ks :=
  wlk_ind (P := fun t => t ∈ ks → wlk w rs t ∈ ks) hr (fun t e ht => by rw [wlk_stop e]; exact ht) (fun t e ih ht => by rw [wlk_turn hr e]; exact ih (h t ht e)) t
theorem bx_less {w : Wh} {rs : List (List Ln)} {S : List (Option Bool) → Bool} {n : Nat} {fresh ks : List Sd} (hr : rs ≠ []) (h : BfX w rs S n fresh ks) {t : Sd} {q : List Int} (ha : ArrQ w rs t q) (hl : q.length < w.look.toNat + n) : S (actsR w rs (wlk w rs t)) = false :=
  (h.clo _ (bx_wlk hr (fun t ht => (h.clo t ht).2.1) t (h.kn t q ha hl))).1
theorem bx_level {w : Wh} {rs : List (List Ln)} {S : List (Option Bool) → Bool} {n : Nat} {fresh ks : List Sd} (h : BfX w rs S n fresh ks) : BfY w rs S n fresh ks [] [] ks none :=
  ⟨fun t ht => (by cases ht), h.inS, h.nod, fun _ ht => ht, fun t ht => (by cases ht), fun t ht => ⟨(h.clo t ht).1, fun e => .inl ((h.clo t ht).2.1 e), fun e z hz => ((h.clo t ht).2.2 e z hz).imp id .inl⟩, by simp⟩
theorem by_cur {w : Wh} {rs : List (List Ln)} {S : List (Option Bool) → Bool} {n : Nat} {fresh ks ks0 pre later : List Sd} (h : BfY w rs S n fresh ks0 pre later ks none) (u : Sd) : BfY w rs S n fresh ks0 (pre ++ [u]) later ks (some u) := by
  refine ⟨h.la, h.inS, h.nod, h.sub, fun t ht => ?_, fun t ht => ⟨(h.clo t ht).1, fun e => ?_, (h.clo t ht).2.2⟩, h.cnt⟩
  · rcases List.mem_append.mp ht with ht | ht
    · rcases h.pre t ht with k | k
      · exact .inl k
      · cases k
    · exact .inr (by rw [List.mem_singleton.mp ht])
  · rcases (h.clo t ht).2.1 e with k | k
    · exact .inl k
    · cases k
theorem by_end {w : Wh} {rs : List (List Ln)} {S : List (Option Bool) → Bool} {n : Nat} {fresh ks ks0 pre later : List Sd} {u : Sd} (h : BfY w rs S n fresh ks0 pre later ks (some u)) (hu : u ∈ ks) : BfY w rs S n fresh ks0 pre later ks none := by
  refine ⟨h.la, h.inS, h.nod, h.sub, fun t ht => ?_, fun t ht => ⟨(h.clo t ht).1, fun e => ?_, (h.clo t ht).2.2⟩, h.cnt⟩
  · rcases h.pre t ht with k | k
    · exact .inl k
    · exact .inl (by rw [Option.some.inj k]; exact hu)
  · rcases (h.clo t ht).2.1 e with k | k
    · exact .inl k
    · exact .inl (by rw [Option.some.inj k]; exact hu)
/-- a stand is visited: later grows by more, the current one is cur -/
theorem by_visit {w : Wh} {rs : List (List Ln)} {S : List (Option Bool) → Bool} {n : Nat} {fresh ks ks0 pre later : List Sd} {u : Sd} {more : List Sd} (h : BfY w rs S n fresh ks0 pre later ks (some u)) (hu : u ∉ ks) (hS : u ∈ standsL w) (hs : S (actsR w rs u) = false) (hm : ∀ t ∈ more, ∃ q, ArrQ w rs t q ∧ q.length = w.look.toNat + n + 1) (hl : more.length ≤ 4)
    (ht : allA false (actsR w rs u) = true → some (afterL u false 0) = cur) (hb : allA true (actsR w rs u) = true → ∀ z ∈ w.sizes, afterL u true z ∈ more) : BfY w rs S n fresh ks0 pre (later ++ more) (ks ++ [u]) cur := by
  have inn : ∀ {t : Sd}, t ∈ ks ∨ some t = some u → t ∈ ks ++ [u] := fun {t} k => by
    rcases k with k | k
    · exact List.mem_append_left _ k
    · rw [Option.some.inj k]; simp
  refine ⟨fun t ht => ?_, fun t ht => ?_, ?_, fun t ht => List.mem_append_left _ (h.sub t ht), fun t ht => .inl (inn (h.pre t ht)), fun t hk => ?_, ?_⟩
  · rcases List.mem_append.mp ht with ht | ht
    · exact h.la t ht
    · exact hm t ht
  · rcases List.mem_append.mp ht with ht | ht
    · exact h.inS t ht
    · rw [List.mem_singleton.mp ht]; exact hS
  · refine List.nodup_append.mpr ⟨h.nod, by simp, fun a ha b hb => ?_⟩
    rw [List.mem_singleton.mp hb]
    rintro rfl
    exact hu ha
  · rcases List.mem_append.mp hk with hk | hk
    · obtain ⟨h1, h2, h3⟩ := h.clo t hk
      refine ⟨h1, fun e => .inl (inn (h2 e)), fun e z hz => ?_⟩
      rcases h3 e z hz with k | k | k
      · exact .inl (List.mem_append_left _ k)
      · exact .inr (.inl k)
      · exact .inr (.inr (List.mem_append_left _ k))
    · have e9 := List.mem_singleton.mp hk
      subst e9
      exact ⟨hs, fun e => .inr (ht e), fun e z hz => .inr (.inr (List.mem_append_right _ (hb e z hz)))⟩
  · have := h.cnt
    rw [List.length_append, List.length_append, List.length_singleton]
    omega
theorem bx_next {w : Wh} {rs : List (List Ln)} {most : Int} {S : List (Option Bool) → Bool} {n : Nat} {fresh ks later : List Sd} (hw : GoodWh most w) (hr : rs ≠ []) {ks' : List Sd} (h : BfX w rs S n fresh ks) (k : BfY w rs S n fresh ks fresh later ks' none) : BfX w rs S (n + 1) later ks' := by
  have frin : ∀ t ∈ fresh, t ∈ ks' := fun t ht => by
    rcases k.pre t ht with k | k
    · exact k
    · cases k
  have both : ∀ {t : Sd}, t ∈ ks ∨ t ∈ fresh → t ∈ ks' := fun {t} z => z.elim (k.sub t) (frin t)
  have turns : ∀ t ∈ ks', allA false (actsR w rs t) = true → afterL t false 0 ∈ ks' := fun t ht e => by
    rcases (k.clo t ht).2.1 e with k | k
    · exact k
    · cases k
  have boards : ∀ t ∈ ks', allA true (actsR w rs t) = true → ∀ z ∈ w.sizes, afterL t true z ∈ ks' ∨ afterL t true z ∈ later := fun t ht e z hz => by
    rcases (k.clo t ht).2.2 e z hz with k | k | k
    · exact .inl k
    · exact .inl (frin _ k)
    · exact .inr k
  refine ⟨fun t ht => ?_, k.inS, k.nod, fun t ht => ⟨(k.clo t ht).1, turns t ht, boards t ht⟩, fun t ht => .inl (both (h.st t ht)), fun t q ha hl => ?_, fun t q ha hl => ?_⟩
  · obtain ⟨q, h1, h2⟩ := k.la t ht
    exact ⟨q, h1, by omega⟩
  · rcases Nat.lt_or_ge q.length (w.look.toNat + n) with hlt | hge
    · exact k.sub _ (h.kn t q ha hlt)
    · exact both (h.eq t q ha (by omega))
  · cases ha with
    | zero ha => exact .inl (both (h.st _ ha))
    | succ ha hal hz =>
      rw [List.length_append, List.length_singleton] at hl
      exact boards _ (bx_wlk hr turns _ (both (h.eq _ _ ha (by omega)))) hal _ hz
theorem bx_none {w : Wh} {rs : List (List Ln)} {S : List (Option Bool) → Bool} {n : Nat} {ks : List Sd} (hr : rs ≠ []) (h : BfX w rs S n [] ks) : ∀ t q, ArrQ w rs t q → S (actsR w rs (wlk w rs t)) = false := by
  have turns : ∀ t ∈ ks, allA false (actsR w rs t) = true → afterL t false 0 ∈ ks := fun t ht => (h.clo t ht).2.1
  have key : ∀ t q, ArrQ w rs t q → t ∈ ks := by
    intro t q ha
    induction ha with
    | zero ha =>
      rcases h.st _ ha with k | k
      · exact k
      · cases k
    | succ ha hal hz ih =>
      rcases (h.clo _ (bx_wlk hr turns _ ih)).2.2 hal _ hz with k | k
      · exact k
      · cases k
  exact fun t q ha => (h.clo _ (bx_wlk hr turns _ (key t q ha))).1
theorem way_start {w : Wh} {rs : List (List Ln)} {most : Int} {S : List (Option Bool) → Bool} {n : Nat} {fresh ks : List Sd} (hw : GoodWh most w) (hr : rs ≠ []) (h : BfX w rs S n fresh ks) {t : Sd} (ht : t ∈ fresh) : OnWay w rs n t := by
  obtain ⟨q, h1, h2⟩ := h.fr t ht
  exact ⟨arr_stand hw hr h1, t, q, h1, h2, rfl⟩
theorem way_turn {w : Wh} {rs : List (List Ln)} {most : Int} {n : Nat} (hw : GoodWh most w) (hr : rs ≠ []) {u : Sd} (h : OnWay w rs n u) (e : allA false (actsR w rs u) = true) : OnWay w rs n (afterL u false 0) := by
  obtain ⟨h0, a, q, h1, h2, h3⟩ := h
  exact ⟨may_stand hw h0 (allA_may hr e) fun z => (by cases z), a, q, h1, h2, by rw [h3, wlk_turn hr e]⟩
theorem way_board {w : Wh} {rs : List (List Ln)} {n : Nat} (hr : rs ≠ []) {u : Sd} (h : OnWay w rs n u) (e : allA true (actsR w rs u) = true) {z : Int} (hz : z ∈ w.sizes) : ∃ q, ArrQ w rs (afterL u true z) q ∧ q.length = w.look.toNat + n + 1 := by
  obtain ⟨h0, a, q, h1, h2, h3⟩ := h
  have h4 : wlk w rs a = u := by rw [h3]; exact wlk_stop (allA_not hr e)
  have h5 := ArrQ.succ (z := z) h1 (by rw [h4]; exact e) hz
  rw [h4] at h5
  exact ⟨_, h5, by rw [List.length_append, List.length_singleton]; omega⟩
theorem way_sought {w : Wh} {rs : List (List Ln)} {S : List (Option Bool) → Bool} {n : Nat} {u : Sd} (h : OnWay w rs n u) (e : allA false (actsR w rs u) = false) (hs : S (actsR w rs u) = true) : ∃ a q, ArrQ w rs a q ∧ q.length = w.look.toNat + n ∧ S (actsR w rs (wlk w rs a)) = true := by
  obtain ⟨h0, a, q, h1, h2, h3⟩ := h
  exact ⟨a, q, h1, h2, by rw [h3, wlk_stop e]; exact hs⟩
/-- rules that may be asked -/
def GoodRs (rs : List (List Ln)) : Prop := rs ≠ [] ∧ rs.length ≤ 1000 ∧ ∀ r ∈ rs, ∀ l ∈ r, l.ts.length ≤ 1000 ∧ ∀ c ∈ l.ts, c.what ∈ whatsL ∧ Sm 0 10 (.str c.what)
theorem bv_eqAct {S : Type} {s : S} {Q : Val → S → Prop} (a : Option Bool) (b : Bool) (q : Q (.d (.bool (decide (a = some b)))) s) : BV opEq (.d (actD a)) (.d (.str (deedS b))) s Q := by
  cases a with
  | none =>
    refine bv_eqD (k := 0) (b := 0) (k' := 0) (b' := 5) sm_none (sm_deed b) ?_
    have e : PyData.eqv (actD none) (.str (deedS b)) = decide ((none : Option Bool) = some b) := by cases b <;> rfl
    rw [e]
    exact q
  | some c =>
    refine bv_eqS ?_ (by rw [strOk_deed, strOk_deed]; rfl)
    have e : decide (deedS c = deedS b) = decide (some c = some b) := by cases c <;> cases b <;> decide +kernel
    rw [e]
    exact q
theorem walked_eq (w : Wh) {most : Int} (hw : GoodWh most w) {rs : List (List Ln)} (hrs : GoodRs rs) {t : Sd} (ht : t ∈ standsL w) (s : Dk) :
    m_walked [.d w.d, .d (.tuple (rs.map ruD)), .d t.d] s = .ok (.d (.tuple [(wlk w rs t).d, .list ((actsR w rs (wlk w rs t)).map actD)])) s := by
  obtain ⟨hr, hrl, hru⟩ := hrs
  refine w_eq ?_
  have sz := sizeLine_big
  have hp := hw.pat
  have deeds : ∀ {u : Sd}, u ∈ standsL w → ∀ r ∈ rs, ∀ s, m_deed [.d w.d, .d (ruD r), .d u.d] s = .ok (.d (actD (deedR w u r))) s := fun {u} hu r hr s => by
    obtain ⟨h0, h1, hl, hl2⟩ := (standsL_mem hw u hu).ne hw
    exact deed_eq w r u hw.small (fun l hl => ⟨(hru r hr l hl).1, fun c hc => ((hru r hr l hl).2 c hc).1⟩) (by omega) h0 h1 s
  have eT : (PyData.str "turn") = .str (deedS false) := rfl
  unfold m_walked b_walked
  rw [eT]
  repeat wtm_at "z"
  refine ⟨by rw [List.length_map]; omega, ?_⟩
  refine lc_mapOf ruD (fun r => actD (deedR w t r)) rs (fun r hr => item1 rfl ?_) ?_
  · repeat wtm_at "z"
    refine w_of (deeds ht r hr _) ?_
    exact ⟨_, rfl, rfl, rfl⟩
  rw [show (rs.map fun r => actD (deedR w t r)) = (actsR w rs t).map actD by unfold actsR; rw [List.map_map]; rfl]
  repeat wtm_at "z"
  refine w_while (fun m ρ s' => s' = s ∧ ∃ u x4 x5, m = (w.pat - u.wt).toNat ∧ u ∈ standsL w ∧ wlk w rs u = wlk w rs t ∧ ρ = [.v (.d w.d), .v (.d (.tuple (rs.map ruD))), .v (.d u.d), .v (.d (.list ((actsR w rs u).map actD))), x4, x5]) (m := (w.pat - t.wt).toNat) (by have := (standsL_mem hw t ht).wt; omega) ⟨rfl, t, _, _, rfl, ht, rfl, rfl⟩ ?_
  rintro m ρ s' ⟨rfl, u, x4, x5, rfl, hu, hwl, rfl⟩
  obtain ⟨h0, h1, hl, hl2⟩ := (standsL_mem hw u hu).ne hw
  have hal : (actsR w rs u).length ≤ 1000 := by unfold actsR; rw [List.length_map]; omega
  repeat wtm_at "z"
  refine ⟨by rw [List.length_map]; omega, ?_⟩
  refine lc_mapOf actD (fun a => .bool (decide (a = some false))) (actsR w rs u) (fun a ha => item1 rfl ?_) ?_
  · repeat wtm_at "z"
    refine bv_eqAct a false ?_
    exact ⟨_, rfl, rfl, rfl⟩
  repeat wtm_at "z"
  refine cv_all ?_
  rw [show ((actsR w rs u).all fun a => decide (a = some false)) = allA false (actsR w rs u) from rfl]
  repeat wtm_at "z"
  refine br (fun e => ?_) fun e => ?_
  · have hm := allA_may hr e
    have hu2 : afterL u false 0 ∈ standsL w := may_stand hw hu hm fun z => (by cases z)
    repeat wtm_at "z"
    refine w_of (after_eq w u false 0 (by omega) (by omega) h0 h1 _) ?_
    repeat wtm_at "z"
    refine ⟨by rw [List.length_map]; omega, ?_⟩
    refine lc_mapOf ruD (fun r => actD (deedR w (afterL u false 0) r)) rs (fun r hr => item1 rfl ?_) ?_
    · repeat wtm_at "z"
      refine w_of (deeds hu2 r hr _) ?_
      exact ⟨_, rfl, rfl, rfl⟩
    rw [show (rs.map fun r => actD (deedR w (afterL u false 0) r)) = (actsR w rs (afterL u false 0)).map actD by unfold actsR; rw [List.map_map]; rfl]
    repeat wtm_at "z"
    have hmt := may_turn hm
    exact ⟨(w.pat - (u.wt + 1)).toNat, by omega, rfl, afterL u false 0, _, _, rfl, hu2, by rw [← wlk_turn hr e]; exact hwl, rfl⟩
  · repeat wtm_at "z"
    have e2 : wlk w rs t = u := by rw [← hwl]; exact wlk_stop e
    rw [e2]
    exact ⟨rfl, rfl⟩
theorem bfl_add {w : Wh} {rs : List (List Ln)} {S : List (Option Bool) → Bool} {n : Nat} {ks0 ks : List Sd} {pre later : List (Sd × List Int)} {t : Sd} {q : List Int} (h : BfL w rs S n ks0 pre later ks) (ht : t ∉ ks) (hs : t ∈ standsL w) (ha : ArrQ w rs t q) (hl : q.length = w.look.toNat + n + 1) : BfL w rs S n ks0 pre (later ++ [(t, q)]) (ks ++ [t]) := by
  refine ⟨fun p hp => ?_, fun u hu => ?_, ?_, fun u hu => List.mem_append_left _ (h.sub u hu), fun u hu => ?_, fun p hp => ⟨(h.don p hp).1, fun e z hz => List.mem_append_left _ ((h.don p hp).2 e z hz)⟩, ?_⟩
  · rcases List.mem_append.mp hp with hp | hp
    · exact h.la p hp
    · rw [List.mem_singleton.mp hp]; exact ⟨ha, hl⟩
  · rcases List.mem_append.mp hu with hu | hu
    · exact h.inS u hu
    · rw [List.mem_singleton.mp hu]; exact hs
  · refine List.nodup_append.mpr ⟨h.nod, by simp, fun a h9 b hb e => ht ?_⟩
    rw [← List.mem_singleton.mp hb, ← e]
    exact h9
  · rcases List.mem_append.mp hu with hu | hu
    · exact (h.new u hu).imp id fun ⟨q, hq⟩ => ⟨q, List.mem_append_left _ hq⟩
    · exact .inr ⟨q, by rw [List.mem_singleton.mp hu]; simp⟩
  · have := h.cnt
    rw [List.length_append, List.length_append, List.length_singleton, List.length_singleton]
    omega
theorem bfl_did {w : Wh} {rs : List (List Ln)} {S : List (Option Bool) → Bool} {n : Nat} {ks0 ks : List Sd} {pre later : List (Sd × List Int)} (p : Sd × List Int) (h : BfL w rs S n ks0 pre later ks) (hs : S (actsR w rs (wlk w rs p.1)) = false) (hb : allA true (actsR w rs (wlk w rs p.1)) = true → ∀ z ∈ w.sizes, afterL (wlk w rs p.1) true z ∈ ks) : BfL w rs S n ks0 (pre ++ [p]) later ks := by
  refine ⟨h.la, h.inS, h.nod, h.sub, h.new, fun x hx => ?_, h.cnt⟩
  rcases List.mem_append.mp hx with hx | hx
  · exact h.don x hx
  · have e := List.mem_singleton.mp hx
    subst e
    exact ⟨hs, hb⟩
def frD (p : Sd × List Int) : PyData := .tuple [p.1.d, iT p.2]
theorem sm_fr {w : Wh} {most : Int} (hw : GoodWh most w) {p : Sd × List Int} {m : Nat} (h : GoodSd w p.1) (hz : ∀ z ∈ p.2, z ∈ w.sizes) (hl : p.2.length ≤ m) : Sm 3 (m + 20) (frD p) := by
  have hr := hw.room
  exact (sm_tuple (sl_cons (sm_sd hw h) (sl_cons ((sm_iT fun x hx => by have := hw.zs x (hz x hx); omega).le (k' := 2) (by decide) hl) sl_nil))).le (Nat.le_refl _) (by omega)
theorem first_queue_ok (w : Wh) {most : Int} (hw : GoodWh most w) (hmost : most ≤ 2000) {rs : List (List Ln)} (hrs : GoodRs rs) (S : List (Option Bool) → Bool) {nl : Nat} {F : List Val → Dk → Out Dk Val} (hlam : lamT nl = some (1, F)) (hF : ∀ as s, as.length = rs.length → F [.d (.list (as.map actD))] s = .ok (.d (.bool (S as))) s) {s : Dk} {Q : Val → Dk → Prop}
    (q1 : ∀ t q, ArrQ w rs t q → q.length ≤ 3000 → S (actsR w rs (wlk w rs t)) = true → (∀ t' q', ArrQ w rs t' q' → q'.length < q.length → S (actsR w rs (wlk w rs t')) = false) → Q (.d (iT q)) s)
    (q2 : (∀ t q, ArrQ w rs t q → S (actsR w rs (wlk w rs t)) = false) → Q (.d .none) s) : W (m_first_queue [.d w.d, .d (.tuple (rs.map ruD)), .f nl] s) Q := by
  have hr := hrs.1
  have hrl := hrs.2.1
  have sz := sizeLine_big
  have hzl := hw.zl
  have hlk := hw.look
  have hN := standsL_cnt hw
  have hst := starts_ne w hw
  have eT : (PyData.str "board") = .str (deedS true) := rfl
  unfold m_first_queue b_first_queue
  rw [eT]
  repeat wtm_at "z"
  refine w_of (starts_eq w hw _) ?_
  repeat wtm_at "z"
  refine ⟨by rw [List.length_map]; omega, ?_⟩
  refine lc_mapOf Sd.d (fun t => frD (t, t.ln)) (startsL w) (fun t ht => item1 rfl ?_) ?_
  · repeat wtm_at "z"
    exact ⟨_, rfl, rfl, rfl⟩
  repeat wtm_at "z"
  refine w_of (starts_eq w hw _) ?_
  repeat wtm_at "z"
  refine ⟨by rw [List.length_map]; omega, ?_⟩
  refine lc_mapOf Sd.d (fun t => .tuple [t.d, .bool true]) (startsL w) (fun t ht => item1 rfl ?_) ?_
  · repeat wtm_at "z"
    exact ⟨_, rfl, rfl, rfl⟩
  repeat wtm_at "z"
  refine ⟨_, _, rfl, pairs_knT _, ?_⟩
  rw [show dAllN [] ((startsL w).map fun t => (t.d, PyData.bool true)) = encM Sd.d yesD (knT (startsL w)) from dAll_knT (startsL w) []]
  repeat wtm_at "z"
  refine w_while (fun m ρ s' => s' = s ∧ ∃ n fresh ks x5 x6 x7 x8 x9 x10 x11 x12, m + ks.length = (standsL w).length + fresh.length ∧ BfP w rs S n fresh ks ∧ ρ = [.v (.d w.d), .v (.d (.tuple (rs.map ruD))), .v (.f nl), .l (fresh.map frD), .m (encM Sd.d yesD (knT ks)), x5, x6, x7, x8, x9, x10, x11, x12])
    (m := (standsL w).length) (by omega) ⟨rfl, 0, (startsL w).map fun t => (t, t.ln), startsL w, _, _, _, _, _, _, _, _, by rw [List.length_map], bf_start hw S, by rw [List.map_map]; rfl⟩ ?_
  rintro m ρ s' ⟨rfl, n, fresh, ks, x5, x6, x7, x8, x9, x10, x11, x12, hm, hB, rfl⟩
  have hkl : ks.length ≤ (standsL w).length := nodup_len hB.nod hB.inS
  have hcnt := hB.cnt
  have frg : ∀ p ∈ fresh, p.1 ∈ standsL w ∧ p.2.length ≤ 3000 := fun p hp => ⟨arr_stand hw hr (hB.fr p hp).1, by have := (hB.fr p hp).2; omega⟩
  have smf : Sm 4 (fresh.length * 3021) (.list (fresh.map frD)) := (sm_list (sl_all (k := 3) (b := 3020) _ fun d hd => by
    obtain ⟨p, hp, rfl⟩ := List.mem_map.mp hd
    exact sm_fr (m := 3000) hw (standsL_mem hw _ (frg p hp).1) (arr_zs hw (hB.fr p hp).1) (frg p hp).2)).le (Nat.le_refl _) (by rw [List.length_map]; exact Nat.le_refl _)
  repeat wtm_at "z"
  refine bv_neNil (.inl rfl) smf ?_
  rw [List.isEmpty_map]
  repeat wtm_at "z"
  refine br (fun he => ?_) fun he => ?_
  · have hne : fresh ≠ [] := fun e => by rw [e] at he; cases he
    repeat wtm_at "z"
    refine for_pre frD (fun pre ρ s2 => s2 = s' ∧ ∃ later ks' x5 x7 x8 x9 x10 x11 x12, BfL w rs S n ks pre later ks' ∧ ρ = [.v (.d w.d), .v (.d (.tuple (rs.map ruD))), .v (.f nl), .v (.d (.list (fresh.map frD))), .m (encM Sd.d yesD (knT ks')), x5, .l (later.map frD), x7, x8, x9, x10, x11, x12]) fresh ⟨rfl, [], ks, _, _, _, _, _, _, _, bf_level hB, rfl⟩ ?_ ?_
    · rintro pre p post ep ρ s2 ⟨rfl, later, ks', y5, y7, y8, y9, y10, y11, y12, hL, rfl⟩
      have hpf : p ∈ fresh := by rw [ep]; simp
      obtain ⟨ha, hal⟩ := hB.fr p hpf
      have hpS := (frg p hpf).1
      have hpl := (frg p hpf).2
      obtain ⟨t, q⟩ := p
      have huS := wlk_stand hw hr hpS
      obtain ⟨h0, h1, hl, hl2⟩ := (standsL_mem hw _ huS).ne hw
      dsimp only at ha hal hpS hpl huS h0 h1 hl hl2
      have hael : (actsR w rs (wlk w rs t)).length = rs.length := by unfold actsR; rw [List.length_map]
      refine ⟨_, rfl, ?_⟩
      simp only [List.set_cons_succ, List.set_cons_zero]
      repeat wtm_at "z"
      refine w_unp ?_
      repeat wtm_at "z"
      refine w_of (walked_eq w hw hrs hpS _) ?_
      refine ⟨_, _, rfl, rfl, ?_⟩
      simp only [List.set_cons_succ, List.set_cons_zero]
      repeat wtm_at "z"
      refine w_callF rfl hlam ?_
      repeat wtm_at "z"
      refine w_of (hF _ _ hael) ?_
      repeat wtm_at "z"
      refine br (fun hs => ?_) fun hs => ?_
      · repeat wtm_at "z"
        exact q1 t q ha hpl hs fun t' q' ha' hl' => hB.less t' q' ha' (by omega)
      · repeat wtm_at "z"
        refine ⟨by rw [List.length_map]; omega, ?_⟩
        refine lc_mapOf actD (fun a => .bool (decide (a = some true))) (actsR w rs (wlk w rs t)) (fun a ha => item1 rfl ?_) ?_
        · repeat wtm_at "z"
          refine bv_eqAct a true ?_
          exact ⟨_, rfl, rfl, rfl⟩
        repeat wtm_at "z"
        refine cv_all ?_
        rw [show ((actsR w rs (wlk w rs t)).all fun a => decide (a = some true)) = allA true (actsR w rs (wlk w rs t)) from rfl]
        repeat wtm_at "z"
        refine br (fun e => ?_) fun e => ?_
        · repeat wtm_at "z"
          refine for_pre PyData.int (fun zs ρ s3 => s3 = s2 ∧ ∃ later ks' x10 x12, BfL w rs S n ks pre later ks' ∧ (∀ z ∈ zs, afterL (wlk w rs t) true z ∈ ks') ∧ ρ = [.v (.d w.d), .v (.d (.tuple (rs.map ruD))), .v (.f nl), .v (.d (.list (fresh.map frD))), .m (encM Sd.d yesD (knT ks')), .v (.d t.d), .l (later.map frD), .v (.d (iT q)), .v (.d (wlk w rs t).d), .v (.d (.list ((actsR w rs (wlk w rs t)).map actD))), x10, y11, x12]) w.sizes ⟨rfl, later, ks', _, _, hL, fun z hz => (by cases hz), rfl⟩ ?_ ?_
          · rintro zs z zpost ez ρ s3 ⟨rfl, later2, ks2, z10, z12, hL2, hzs, rfl⟩
            have hz : z ∈ w.sizes := by rw [ez]; simp
            have hk2 : ks2.length ≤ (standsL w).length := nodup_len hL2.nod hL2.inS
            have hc2 := hL2.cnt
            have hb := allA_may hr e
            have hnew := ArrQ.succ ha e hz
            refine ⟨_, rfl, ?_⟩
            simp only [List.set_cons_succ, List.set_cons_zero]
            repeat wtm_at "z"
            refine w_of (after_eq w (wlk w rs t) true z (by omega) (by omega) h0 h1 _) ?_
            repeat wtm_at "z"
            refine bv_notInN sdE (ve := yesD) (knT ks2) (afterL (wlk w rs t) true z) ?_
            rw [knT_has]
            repeat wtm_at "z"
            refine br_ndec (fun hin => ?_) fun hin => ?_
            · have hkn := knT_len ks2
              repeat wtm_at "z"
              refine ⟨_, _, _, rfl, rfl, sdE.tk _, ⟨by unfold encM; rw [List.length_map]; omega, encM_all sdE _ _⟩, ?_⟩
              have ep := encM_put sdE yesD (knT ks2) (afterL (wlk w rs t) true z) ()
              have ep : dPutN (encM Sd.d yesD (knT ks2)) (afterL (wlk w rs t) true z).d (.bool true) (sdKey (afterL (wlk w rs t) true z)) = encM Sd.d yesD (putK (knT ks2) (afterL (wlk w rs t) true z) ()) := ep
              rw [ep, ← knT_app]
              repeat wtm_at "z"
              · refine ⟨_, rfl, by rw [List.length_map]; omega, ?_⟩
                repeat wtm_at "z"
                have e9 : later2.map frD ++ [PyData.tuple [(afterL (wlk w rs t) true z).d, PyData.tuple (q.map PyData.int ++ [PyData.int z])]] = (later2 ++ [(afterL (wlk w rs t) true z, q ++ [z])]).map frD := by
                  simp only [List.map_append, List.map_cons, List.map_nil, frD, iT]
                rw [e9]
                refine ⟨rfl, later2 ++ [(afterL (wlk w rs t) true z, q ++ [z])], ks2 ++ [afterL (wlk w rs t) true z], _, _, bfl_add hL2 hin (may_stand hw huS hb fun _ => hz) hnew (by rw [List.length_append, List.length_singleton]; omega), fun y hy => ?_, rfl⟩
                rcases List.mem_append.mp hy with hy | hy
                · exact List.mem_append_left _ (hzs y hy)
                · rw [List.mem_singleton.mp hy]; simp
              · rw [List.length_map]
                simp
                omega
            · repeat wtm_at "z"
              refine ⟨rfl, later2, ks2, _, _, hL2, fun y hy => ?_, rfl⟩
              rcases List.mem_append.mp hy with hy | hy
              · exact hzs y hy
              · rw [List.mem_singleton.mp hy]; exact hin
          · rintro ρ s3 ⟨rfl, later2, ks2, z10, z12, hL2, hzs, rfl⟩
            repeat wtm_at "z"
            exact ⟨rfl, later2, ks2, _, _, _, _, _, _, _, bfl_did (t, q) hL2 hs fun _ => hzs, rfl⟩
        · repeat wtm_at "z"
          refine for_inv (fun n ρ' s3 => s3 = s2 ∧ ρ' = _) [] 0 ⟨rfl, rfl⟩ (fun k d hd => by simp at hd) ?_
          rintro ρ s3 ⟨rfl, rfl⟩
          repeat wtm_at "z"
          exact ⟨rfl, later, ks', _, _, _, _, _, _, _, bfl_did (t, q) hL hs (fun e2 => by rw [e] at e2; cases e2), rfl⟩
    · rintro ρ s2 ⟨rfl, later, ks', y5, y7, y8, y9, y10, y11, y12, hL, rfl⟩
      have hkl' : ks'.length ≤ (standsL w).length := nodup_len hL.nod hL.inS
      have hcl := hL.cnt
      have hfl := List.length_pos_iff.mpr hne
      repeat wtm_at "z"
      exact ⟨(standsL w).length + later.length - ks'.length, by omega, rfl, n + 1, later, ks', _, _, _, _, _, _, _, _, by omega, bf_next hne hB hL, rfl⟩
  · have hne : fresh = [] := by
      cases fresh with
      | nil => rfl
      | cons p r => cases he
    subst hne
    repeat wtm_at "z"
    exact q2 (bf_none hB)
theorem eqv_act (a : Option Bool) (b : Bool) : PyData.eqv (actD a) (.str (deedS b)) = decide (a = some b) := by
  cases a with
  | none => cases b <;> rfl
  | some c => cases c <;> cases b <;> decide +kernel
theorem eqv_acts (b : Bool) : ∀ as : List (Option Bool), PyData.eqvAll (as.map actD) (List.replicate as.length (.str (deedS b))) = allA b as
  | [] => rfl
  | a :: as => by
    rw [List.map_cons, List.length_cons, List.replicate_succ]
    show (PyData.eqv (actD a) (.str (deedS b)) && PyData.eqvAll (as.map actD) (List.replicate as.length (.str (deedS b)))) = _
    rw [eqv_act, eqv_acts b as]
    rfl
theorem bv_acts {S : Type} {s : S} {Q : Val → S → Prop} (b : Bool) (as : List (Option Bool)) (q : Q (.d (.bool (allA b as))) s) : BV opEq (.d (.list (as.map actD))) (.d (.list (List.replicate as.length (.str (deedS b))))) s Q := by
  refine bv_eqD (k := 1) (b := as.length * 6) (k' := 1) (b' := as.length * 6) ((sm_list (sl_all (k := 0) (b := 5) _ fun d hd => ?_)).le (Nat.le_refl _) (by rw [List.length_map]; exact Nat.le_refl _)) ((sm_list (sl_all (k := 0) (b := 5) _ fun d hd => ?_)).le (Nat.le_refl _) (by rw [List.length_replicate]; exact Nat.le_refl _)) ?_
  · obtain ⟨a, _, rfl⟩ := List.mem_map.mp hd
    exact sm_act a
  · rw [(List.mem_replicate.mp hd).2]
    exact sm_deed b
  · have e : PyData.eqv (.list (as.map actD)) (.list (List.replicate as.length (.str (deedS b)))) = allA b as := eqv_acts b as
    rw [e]
    exact q
theorem bv_mulA {S : Type} {s : S} {Q : Val → S → Prop} (b : Bool) {n : Nat} (hn : n ≤ 1000) (q : Q (.d (.list (List.replicate n (.str (deedS b))))) s) : BV opMul (.d (.list [.str (deedS b)])) (.d (.int (n : Nat))) s Q := by
  refine bv (op := opMul) (r := .list (List.replicate n (.str (deedS b)))) ?_ q
  have sz := sizeLine_big
  rw [opMul, if_pos ⟨by omega, by omega, by simp; omega⟩, Int.toNat_natCast]
  have e : ∀ n : Nat, (List.replicate n [PyData.str (deedS b)]).flatten = List.replicate n (.str (deedS b)) := by
    intro n
    induction n with
    | zero => rfl
    | succ n ih => rw [List.replicate_succ, List.flatten_cons, ih]; rfl
  rw [e n]
theorem lfirst_ok (w : Wh) {most : Int} (hw : GoodWh most w) (hmost : most ≤ 2000) {rs : List (List Ln)} (hrs : GoodRs rs) (S : List (Option Bool) → Bool) (hS : ∀ as, S as = true → as.length = rs.length → allA false as = false) {nl : Nat} {F : List Val → Dk → Out Dk Val} (hlam : lamT nl = some (1, F)) (hF : ∀ as s, as.length = rs.length → F [.d (.list (as.map actD))] s = .ok (.d (.bool (S as))) s) {s : Dk} {Q : Val → Dk → Prop}
    (q1 : ∀ t q, ArrQ w rs t q → S (actsR w rs (wlk w rs t)) = true → (∀ t' q', ArrQ w rs t' q' → q'.length < q.length → S (actsR w rs (wlk w rs t')) = false) → Q (.d (.int (q.length : Nat))) s)
    (q2 : (∀ t q, ArrQ w rs t q → S (actsR w rs (wlk w rs t)) = false) → Q (.d .none) s) : W (m__law_first [.d w.d, .d (.list (rs.map ruD)), .f nl] s) Q := by
  have hr := hrs.1
  have hrl := hrs.2.1
  have hru := hrs.2.2
  have sz := sizeLine_big
  have hzl := hw.zl
  have hlk := hw.look
  have hN := standsL_cnt hw
  have hst := starts_ne w hw
  have eB : (PyData.str "board") = .str (deedS true) := rfl
  have eT : (PyData.str "turn") = .str (deedS false) := rfl
  have hael : ∀ u, (actsR w rs u).length = rs.length := fun u => by unfold actsR; rw [List.length_map]
  unfold m__law_first b__law_first
  rw [eB, eT]
  repeat wtm_at "z"
  refine w_of (lstarts_eq w hw _) ?_
  repeat wtm_at "z"
  refine w_while (fun m ρ s' => s' = s ∧ ∃ n fresh ks c x6 x7 x8 x9, m + 5 * ks.length = 5 * (standsL w).length + fresh.length ∧ BfX w rs S n fresh ks ∧ fresh.length ≤ 10000 ∧ c = w.look + (n : Nat) ∧ ρ = [.v (.d w.d), .v (.d (.list (rs.map ruD))), .v (.f nl), .v (.d (.list (fresh.map Sd.d))), .m (encM Sd.d yesD (knT ks)), .v (.d (.int c)), x6, x7, x8, x9])
    (m := 5 * (standsL w).length + (startsL w).length) (by omega) ⟨rfl, 0, startsL w, [], w.look, _, _, _, _, by simp, bx_start hw S, by omega, by simp, rfl⟩ ?_
  rintro m ρ s' ⟨rfl, n, fresh, ks, c, x6, x7, x8, x9, hm, hB, hfl, hc, rfl⟩
  have hkl : ks.length ≤ (standsL w).length := nodup_len hB.nod hB.inS
  have frs : ∀ t ∈ fresh, t ∈ standsL w := fun t ht => let ⟨q, h1, _⟩ := hB.fr t ht; arr_stand hw hr h1
  repeat wtm_at "z"
  refine bv_neNil (.inl rfl) (sm_sdL hw fun t ht => standsL_mem hw t (frs t ht)) ?_
  rw [List.isEmpty_map]
  repeat wtm_at "z"
  refine br (fun he => ?_) fun he => ?_
  · have hne : fresh ≠ [] := fun e => by rw [e] at he; cases he
    have hfp := List.length_pos_iff.mpr hne
    repeat wtm_at "z"
    refine for_pre Sd.d (fun pre ρ s2 => s2 = s' ∧ ∃ later ks' x7 x8 x9, BfY w rs S n fresh ks pre later ks' none ∧ ρ = [.v (.d w.d), .v (.d (.list (rs.map ruD))), .v (.f nl), .v (.d (.list (fresh.map Sd.d))), .m (encM Sd.d yesD (knT ks')), .v (.d (.int c)), .l (later.map Sd.d), x7, x8, x9]) fresh ⟨rfl, [], ks, _, _, _, bx_level hB, rfl⟩ ?_ ?_
    · rintro pre t post ep ρ s2 ⟨rfl, later, ks', y7, y8, y9, hL, rfl⟩
      have htf : t ∈ fresh := by rw [ep]; simp
      have hkl' : ks'.length ≤ (standsL w).length := nodup_len hL.nod hL.inS
      refine ⟨_, rfl, ?_⟩
      simp only [List.set_cons_succ, List.set_cons_zero]
      refine w_while (fun m ρ s3 => s3 = s2 ∧ ∃ u later ks' x8 x9, m + ks'.length = (standsL w).length ∧ BfY w rs S n fresh ks (pre ++ [t]) later ks' (some u) ∧ OnWay w rs n u ∧ ρ = [.v (.d w.d), .v (.d (.list (rs.map ruD))), .v (.f nl), .v (.d (.list (fresh.map Sd.d))), .m (encM Sd.d yesD (knT ks')), .v (.d (.int c)), .l (later.map Sd.d), .v (.d u.d), x8, x9])
        (m := (standsL w).length - ks'.length) (by omega) ⟨rfl, t, later, ks', _, _, by omega, by_cur hL t, way_start hw hr hB htf, rfl⟩ ?_
      rintro m3 ρ s3 ⟨rfl, u, later2, ks2, z8, z9, hm3, hY, hway, rfl⟩
      have huS := hway.1
      have hug := standsL_mem hw u huS
      obtain ⟨h0, h1, hl, hl2⟩ := hug.ne hw
      have hk2 : ks2.length ≤ (standsL w).length := nodup_len hY.nod hY.inS
      have hcn := hY.cnt
      repeat wtm_at "z"
      refine bv_notInN sdE (ve := yesD) (knT ks2) u ?_
      rw [knT_has]
      repeat wtm_at "z"
      refine br_ndec (fun hin => ?_) fun hin => ?_
      · have hkn := knT_len ks2
        have hk3 : (ks2 ++ [u]).length ≤ (standsL w).length := nodup_len (List.nodup_append.mpr ⟨hY.nod, by simp, fun a h9 b hb e => hin (by rw [← List.mem_singleton.mp hb, ← e]; exact h9)⟩) fun x hx => by
          rcases List.mem_append.mp hx with hx | hx
          · exact hY.inS x hx
          · rw [List.mem_singleton.mp hx]; exact huS
        rw [List.length_append, List.length_singleton] at hk3
        repeat wtm_at "z"
        refine ⟨_, _, _, rfl, rfl, sdE.tk _, ⟨by unfold encM; rw [List.length_map]; omega, encM_all sdE _ _⟩, ?_⟩
        have ep := encM_put sdE yesD (knT ks2) u ()
        have ep : dPutN (encM Sd.d yesD (knT ks2)) u.d (.bool true) (sdKey u) = encM Sd.d yesD (putK (knT ks2) u ()) := ep
        rw [ep, ← knT_app]
        repeat wtm_at "z"
        refine ⟨by rw [List.length_map]; omega, ?_⟩
        refine lc_mapOf ruD (fun r => actD (deedR w u r)) rs (fun r hr => item1 rfl ?_) ?_
        · repeat wtm_at "z"
          refine w_of (ldeed_eq w r u hw hug (hru r hr) _) ?_
          exact ⟨_, rfl, rfl, rfl⟩
        rw [show (rs.map fun r => actD (deedR w u r)) = (actsR w rs u).map actD by unfold actsR; rw [List.map_map]; rfl]
        repeat wtm_at "z"
        refine w_callF rfl hlam ?_
        repeat wtm_at "z"
        refine w_of (hF _ _ (hael u)) ?_
        repeat wtm_at "z"
        refine br (fun hs => ?_) fun hs => ?_
        · repeat wtm_at "z"
          obtain ⟨a, q, ha, hq, hs2⟩ := way_sought hway (hS _ hs (hael u)) hs
          rw [show c = ((q.length : Nat) : Int) by omega]
          exact q1 a q ha hs2 fun t' q' ha' hl' => bx_less hr hB ha' (by omega)
        · have hcl : BfY w rs S n fresh ks (pre ++ [t]) later2 ks2 (some u) := hY
          repeat wtm_at "z"
          rw [List.length_map]
          refine bv_mulA false hrl ?_
          rw [← hael u]
          refine bv_acts false (actsR w rs u) ?_
          repeat wtm_at "z"
          refine br (fun e => ?_) fun e => ?_
          · have hm := allA_may hr e
            have hbne : behindL w u false = [afterL u false 0] := by
              have := deeds_behind hw hug (List.mem_filter.mpr ⟨by simp, hm⟩ : false ∈ deedsB w u)
              rw [this]
              rfl
            repeat wtm_at "z"
            refine w_of (behind_eq w u false hw.small (by omega) (by omega) (by omega) h0 h1 _) ?_
            rw [hbne]
            repeat wtm_at "z"
            refine ⟨(standsL w).length - (ks2.length + 1), by omega, rfl, afterL u false 0, later2, ks2 ++ [u], _, _, by rw [List.length_append, List.length_singleton]; omega, ?_, way_turn hw hr hway e, rfl⟩
            have hv := by_visit (more := []) (cur := some (afterL u false 0)) hY hin huS hs (fun _ h => by cases h) (by simp) (fun _ => rfl) fun e2 => by rw [allA_not hr e2] at e; cases e
            rw [List.append_nil] at hv
            exact hv
          · repeat wtm_at "z"
            rw [List.length_map]
            refine bv_mulA true hrl ?_
            rw [← hael u]
            refine bv_acts true (actsR w rs u) ?_
            repeat wtm_at "z"
            refine br (fun e2 => ?_) fun e2 => ?_
            · have hm := allA_may hr e2
              have hbne : behindL w u true = w.sizes.map (afterL u true) := by
                have := deeds_behind hw hug (List.mem_filter.mpr ⟨by simp, hm⟩ : true ∈ deedsB w u)
                rw [this]
                rfl
              repeat wtm_at "z"
              refine w_of (behind_eq w u true hw.small (by omega) (by omega) (by omega) h0 h1 _) ?_
              rw [hbne]
              refine ⟨_, rfl, by rw [List.length_map, List.length_map, List.length_map]; omega, ?_⟩
              rw [← List.map_append]
              repeat wtm_at "z"
              refine ⟨(standsL w).length - (ks2.length + 1), by omega, rfl, u, later2 ++ w.sizes.map (afterL u true), ks2 ++ [u], _, _, by rw [List.length_append, List.length_singleton]; omega, ?_, hway, rfl⟩
              exact by_visit (cur := some u) hY hin huS hs (fun x hx => by
                obtain ⟨z, hz, rfl⟩ := List.mem_map.mp hx
                exact way_board hr hway e2 hz) (by rw [List.length_map]; omega) (fun e3 => by rw [e] at e3; cases e3) fun _ z hz => List.mem_map.mpr ⟨z, hz, rfl⟩
            · repeat wtm_at "z"
              refine ⟨(standsL w).length - (ks2.length + 1), by omega, rfl, u, later2, ks2 ++ [u], _, _, by rw [List.length_append, List.length_singleton]; omega, ?_, hway, rfl⟩
              have hv := by_visit (more := []) (cur := some u) hY hin huS hs (fun _ h => by cases h) (by simp) (fun e3 => by rw [e] at e3; cases e3) fun e3 => by rw [e2] at e3; cases e3
              rw [List.append_nil] at hv
              exact hv
      · repeat wtm_at "z"
        exact ⟨rfl, later2, ks2, _, _, _, by_end hY hin, rfl⟩
    · rintro ρ s2 ⟨rfl, later, ks', y7, y8, y9, hL, rfl⟩
      have hkl' : ks'.length ≤ (standsL w).length := nodup_len hL.nod hL.inS
      have hcn := hL.cnt
      repeat wtm_at "z"
      exact ⟨5 * (standsL w).length + later.length - 5 * ks'.length, by omega, rfl, n + 1, later, ks', c + 1, _, _, _, _, by omega, bx_next hw hr hB hL, by omega, by omega, rfl⟩
  · have hne : fresh = [] := by
      cases fresh with
      | nil => rfl
      | cons p r => cases he
    subst hne
    repeat wtm_at "z"
    exact q2 (bx_none hr hB)
theorem run_len {w : Wh} {r : List Ln} {q : List Int} (hp : w.pat ≤ 6) : ∀ {t : Sd} {n : Nat} {L : List (Sd × Option Bool)}, Run w r q t n L → L.length ≤ (q.length - n) * 7 + (w.pat - t.wt).toNat + 1
  | _, _, _, .stuck h => by simp
  | _, _, _, .done h e => by simp
  | _, _, _, .board (t := t) (n := n) (z := z) h e k => by
    have ih := run_len hp k
    have hlt : n < q.length := by
      rcases Nat.lt_or_ge n q.length with h | h
      · exact h
      · rw [List.getElem?_eq_none h] at e; cases e
    have e0 : (afterL t true z).wt = 0 := rfl
    rw [e0] at ih
    rw [List.length_cons]
    omega
  | _, _, _, .turn (t := t) h k => by
    have ih := run_len hp k
    have hm := may_turn (deed_may h)
    have e0 : (afterL t false 0).wt = t.wt + 1 := rfl
    rw [e0] at ih
    rw [List.length_cons]
    omega
theorem gr_sub {L T : Nat} {r r' : List Ln} (h : GoodRu L T r) (hs : ∀ l ∈ r', l ∈ r) (hl : r'.length ≤ L) : GoodRu L T r' := ⟨hl, fun l hl => h.ts l (hs l hl)⟩
theorem like_ok {a : Addr} {w : Wh} {most : Int} (hw : GoodWh most w) {r : List Ln} (hr : GoodRu 5 2 r) {s : Dk} {n : Int} (hs : Dks a n s) (hn : n < 700000000) {Q : Val → Dk → Prop}
    (q : ∀ r' s', GoodRu 11 2 r' → Dks a (n + 70) s' → Q (.d (ruD r')) s') : W (m__law_like [.r (.ref a), .d w.d, .d (ruD r)] s) Q := by
  have sz := sizeLine_big
  have hrn := hr.n
  unfold m__law_like b__law_like ruD
  repeat wtm_at "z"
  rw [List.length_map]
  refine draw_a hs (by omega) (by omega) fun spot s1 p0 p1 hs1 => ?_
  obtain ⟨spot, rfl⟩ := Int.eq_ofNat_of_zero_le p0
  repeat wtm_at "z"
  refine draw_a hs1 (by omega) (by omega) fun sort s2 c0 c1 hs2 => ?_
  have el : cutL (r.map Ln.d) none (some (spot : Int)) = (r.take spot).map Ln.d := by rw [cut_takeN, ← List.map_take]
  have er : cutL (r.map Ln.d) (some (spot : Int)) none = (r.drop spot).map Ln.d := by rw [cut_dropN, ← List.map_drop]
  have er1 : cutL (r.map Ln.d) (some ((spot : Int) + 1)) none = (r.drop (spot + 1)).map Ln.d := by rw [show (spot : Int) + 1 = ((spot + 1 : Nat) : Int) by omega, cut_dropN, ← List.map_drop]
  have gl : GoodRu 5 2 (r.take spot) := gr_sub hr (fun l h => List.mem_of_mem_take h) (by rw [List.length_take]; omega)
  have gd : GoodRu 5 2 (r.drop spot) := gr_sub hr (fun l h => List.mem_of_mem_drop h) (by rw [List.length_drop]; omega)
  have gd1 : GoodRu 5 2 (r.drop (spot + 1)) := gr_sub hr (fun l h => List.mem_of_mem_drop h) (by rw [List.length_drop]; omega)
  repeat wtm_at "z"
  refine br_dec (fun h => ?_) fun h => ?_
  · repeat wtm_at "z"
    · rw [el, er1, ← List.map_append]
      exact q _ _ ((gr_app gl gd1).le (by decide) (by decide)) (hs2.le (by omega))
    · rw [el, er1, List.length_map, List.length_map, List.length_take, List.length_drop]
      omega
  · repeat wtm_at "z"
    refine br_dec (fun h => ?_) fun h => ?_
    · repeat wtm_at "z"
      refine rule_ok hs2 (by omega) fun r2 s3 hr2 hs3 => ?_
      have e2 : cutL (r2.map Ln.d) none (some (1 : Int)) = (r2.take 1).map Ln.d := by rw [show (1 : Int) = ((1 : Nat) : Int) from rfl, cut_takeN, ← List.map_take]
      have g2 : GoodRu 1 2 (r2.take 1) := ⟨by rw [List.length_take]; omega, fun l hl => hr2.ts l (List.mem_of_mem_take hl)⟩
      unfold ruD
      repeat wtm_at "z"
      · rw [el, er, e2, ← List.map_append, ← List.map_append]
        exact q _ _ ((gr_app (gr_app gl g2) gd).le (by decide) (by decide)) (hs3.le (by omega))
      all_goals (rw [el, e2]; try rw [er]); simp only [List.length_append, List.length_map, List.length_take, List.length_drop]; omega
    · repeat wtm_at "z"
      refine br_dec (fun h => ?_) fun h => ?_
      · repeat wtm_at "z"
        refine uv (op := opRev) rfl ?_
        repeat wtm_at "z"
        rw [← List.map_reverse]
        exact q _ _ ((gr_sub hr (r' := r.reverse) (fun l h => List.mem_reverse.mp h) (by rw [List.length_reverse]; exact hrn)).le (by decide) (by decide)) (hs2.le (by omega))
      · repeat wtm_at "z"
        refine rule_ok hs2 (by omega) fun r2 s3 hr2 hs3 => ?_
        repeat wtm_at "z"
        exact q _ _ (hr2.le (by decide) (by decide)) (hs3.le (by omega))
theorem deed_of_all {w : Wh} {rs : List (List Ln)} {t : Sd} {b : Bool} (h : allA b (actsR w rs t) = true) {r : List Ln} (hr : r ∈ rs) : deedR w t r = some b :=
  of_decide_eq_true (List.all_eq_true.mp h (deedR w t r) (List.mem_map.mpr ⟨r, hr, rfl⟩))
theorem run_walkR {w : Wh} {rs : List (List Ln)} (hn : rs ≠ []) (t : Sd) : ∃ pre, ∀ r ∈ rs, ∀ (Z : List Int) (n : Nat) (L : List (Sd × Option Bool)), Run w r Z (wlk w rs t) n L → Run w r Z t n (pre ++ L) :=
  wlk_ind (P := fun t => ∃ pre, ∀ r ∈ rs, ∀ (Z : List Int) (n : Nat) (L : List (Sd × Option Bool)), Run w r Z (wlk w rs t) n L → Run w r Z t n (pre ++ L)) hn (fun t e => ⟨[], fun r hr Z n L h => by rw [wlk_stop e] at h; exact h⟩) (fun t e ⟨pre, ih⟩ => ⟨(t, some false) :: pre, fun r hr Z n L h => by
    rw [wlk_turn hn e] at h
    exact .turn (deed_of_all e hr) (ih r hr Z n L h)⟩) t
theorem arr_runR {w : Wh} {most : Int} (hw : GoodWh most w) {rs : List (List Ln)} (hn : rs ≠ []) {t : Sd} {q : List Int} (h : ArrQ w rs t q) : ∃ pre, ∀ r ∈ rs, ∀ (q2 : List Int) (L : List (Sd × Option Bool)), Run w r (q ++ q2) t q.length L → Run w r (q ++ q2) (start0 w (q ++ q2)) w.look.toNat (pre ++ L) := by
  induction h with
  | @zero t h =>
    refine ⟨[], fun r hr q2 L hL => ?_⟩
    have hlk := (starts_good w hw _ h).look
    have hl : t.ln.length = w.look.toNat := by omega
    have e : start0 w (t.ln ++ q2) = t := by
      obtain ⟨x, hx, rfl⟩ := List.mem_map.mp h
      have hl : x.length = w.look.toNat := hl
      show (⟨List.replicate w.ws.length 0, (x ++ q2).take w.look.toNat, 0⟩ : Sd) = ⟨List.replicate w.ws.length 0, x, 0⟩
      rw [List.take_append_of_le_length (by omega), List.take_of_length_le (by omega)]
    rw [e, ← hl]
    exact hL
  | @succ t q z h ha hz ih =>
    obtain ⟨p2, h2⟩ := ih
    obtain ⟨p1, h1⟩ := run_walkR (w := w) hn t
    refine ⟨p2 ++ (p1 ++ [(wlk w rs t, some true)]), fun r hr q2 L hL => ?_⟩
    rw [List.append_assoc, List.length_append, List.length_singleton] at hL
    have hb : Run w r (q ++ ([z] ++ q2)) (wlk w rs t) q.length ((wlk w rs t, some true) :: L) := .board (z := z) (deed_of_all ha hr) (by rw [List.getElem?_append_right (Nat.le_refl _), Nat.sub_self]; rfl) hL
    have h3 := h2 r hr ([z] ++ q2) _ (h1 r hr _ _ _ hb)
    rw [List.append_assoc]
    simpa using h3
theorem run_head {w : Wh} {r : List Ln} {q : List Int} {t : Sd} {n : Nat} {L : List (Sd × Option Bool)} (h : Run w r q t n L) : ∃ rest, L = (t, deedR w t r) :: rest := by
  cases h with
  | stuck h => exact ⟨[], by rw [h]⟩
  | done h e => exact ⟨[], by rw [h]⟩
  | board h e k => exact ⟨_, by rw [h]⟩
  | turn h k => exact ⟨_, by rw [h]⟩
/-- two rules at one stand, their rides alike up to it -/
theorem arr_two {w : Wh} {most : Int} (hw : GoodWh most w) {r1 r2 : List Ln} {t : Sd} {q : List Int} (h : ArrQ w [r1, r2] t q) : ∃ pre L1 L2, Run w r1 q (start0 w q) w.look.toNat (pre ++ (wlk w [r1, r2] t, deedR w (wlk w [r1, r2] t) r1) :: L1) ∧ Run w r2 q (start0 w q) w.look.toNat (pre ++ (wlk w [r1, r2] t, deedR w (wlk w [r1, r2] t) r2) :: L2) := by
  have hn : [r1, r2] ≠ [] := by simp
  obtain ⟨p2, h2⟩ := arr_runR hw hn h
  obtain ⟨p1, h1⟩ := run_walkR (w := w) hn t
  have hS := wlk_stand hw hn (arr_stand hw hn h)
  have key : ∀ r ∈ [r1, r2], ∃ L, Run w r q (start0 w q) w.look.toNat ((p2 ++ p1) ++ (wlk w [r1, r2] t, deedR w (wlk w [r1, r2] t) r) :: L) := fun r hr => by
    obtain ⟨L, hL, _⟩ := run_total hw r (arr_zs hw h) _ (wlk w [r1, r2] t) q.length (standsL_mem hw _ hS) (Nat.le_refl _) (Nat.le_refl _)
    obtain ⟨rest, rfl⟩ := run_head hL
    have h3 := h2 r hr [] _ (by rw [List.append_nil]; exact h1 r hr _ _ _ hL)
    rw [List.append_nil] at h3
    exact ⟨rest, by rw [List.append_assoc]; exact h3⟩
  obtain ⟨L1, k1⟩ := key r1 (by simp)
  obtain ⟨L2, k2⟩ := key r2 (by simp)
  exact ⟨p2 ++ p1, L1, L2, k1, k2⟩
theorem eqv_actD (a b : Option Bool) : PyData.eqv (actD a) (actD b) = decide (a = b) := by
  cases b with
  | none =>
    cases a with
    | none => rfl
    | some c => cases c <;> rfl
  | some b => exact eqv_act a b
theorem do_part_eq (w : Wh) {most : Int} (hw : GoodWh most w) {r1 r2 : List Ln} (hr1 : GoodRu 11 2 r1) (hr2 : GoodRu 11 2 r2) {t : Sd} {q : List Int} (h : ArrQ w [r1, r2] t q) (hq : q.length ≤ 3000) (hd : deedR w (wlk w [r1, r2] t) r1 ≠ deedR w (wlk w [r1, r2] t) r2) (s : Dk) :
    m__law_do_part [.d w.d, .d (ruD r1), .d (ruD r2), .d (iT q)] s = .ok (.d (.bool true)) s := by
  refine w_eq ?_
  have hlk := hw.look
  have hpa := hw.pat
  have hqz := arr_zs hw h
  have hql := arr_len hw h
  obtain ⟨pre, L1, L2, k1, k2⟩ := arr_two hw h
  have l1 := run_len hpa.2 k1
  have l2 := run_len hpa.2 k2
  rw [show (start0 w q).wt = 0 from rfl] at l1 l2
  have hsg := start0_good hw hqz (by omega)
  have g1 := run_good hw hqz k1 hsg
  have g2 := run_good hw hqz k2 hsg
  generalize wlk w [r1, r2] t = u at *
  unfold m__law_do_part b__law_do_part
  repeat wtm_at "z"
  refine w_of (lrun_eq w hw r1 hr1 (by decide) q hqz (by omega) (by omega) _ k1 (by omega)) ?_
  repeat wtm_at "z"
  refine w_of (lrun_eq w hw r2 hr2 (by decide) q hqz (by omega) (by omega) _ k2 (by omega)) ?_
  repeat wtm_at "z"
  have ez : zipD ((pre ++ (u, deedR w u r1) :: L1).map stD) ((pre ++ (u, deedR w u r2) :: L2).map stD) = ((pre ++ (u, deedR w u r1) :: L1).zip (pre ++ (u, deedR w u r2) :: L2)).map fun p => PyData.tuple [stD p.1, stD p.2] := by
    unfold zipD
    rw [List.zip_map, List.map_map]
    rfl
  rw [ez]
  have hat : ∀ i : Nat, i < pre.length → ((pre ++ (u, deedR w u r1) :: L1).zip (pre ++ (u, deedR w u r2) :: L2))[i]? = pre[i]?.map fun x => (x, x) := fun i hi => by
    have e : ((pre ++ (u, deedR w u r1) :: L1).zip (pre ++ (u, deedR w u r2) :: L2))[i]? = some (pre[i], pre[i]) :=
      List.getElem?_zip_eq_some.mpr ⟨by rw [List.getElem?_append_left hi, List.getElem?_eq_getElem hi], by rw [List.getElem?_append_left hi, List.getElem?_eq_getElem hi]⟩
    rw [e, List.getElem?_eq_getElem hi]
    rfl
  have hat2 : ((pre ++ (u, deedR w u r1) :: L1).zip (pre ++ (u, deedR w u r2) :: L2))[pre.length]? = some ((u, deedR w u r1), (u, deedR w u r2)) :=
    List.getElem?_zip_eq_some.mpr ⟨by rw [List.getElem?_append_right (Nat.le_refl _), Nat.sub_self]; rfl, by rw [List.getElem?_append_right (Nat.le_refl _), Nat.sub_self]; rfl⟩
  have hug : GoodSd w u := g1 (u, deedR w u r1) (by simp)
  refine for_pre (fun p : (Sd × Option Bool) × (Sd × Option Bool) => PyData.tuple [stD p.1, stD p.2]) (fun p ρ s' => s' = s ∧ p.length ≤ pre.length ∧ ∃ x6 x7, ρ = [.v (.d w.d), .v (.d (ruD r1)), .v (.d (ruD r2)), .v (.d (iT q)), .v (.d (.list ((pre ++ (u, deedR w u r1) :: L1).map stD))), .v (.d (.list ((pre ++ (u, deedR w u r2) :: L2).map stD))), x6, x7]) _ ⟨rfl, Nat.zero_le _, _, _, rfl⟩ ?_ ?_
  · rintro p x post ep ρ s' ⟨rfl, hp, x6, x7, rfl⟩
    have hx : ((pre ++ (u, deedR w u r1) :: L1).zip (pre ++ (u, deedR w u r2) :: L2))[p.length]? = some x := by
      rw [ep, List.getElem?_append_right (Nat.le_refl _), Nat.sub_self]
      rfl
    refine ⟨_, rfl, ?_⟩
    simp only [List.set_cons_succ, List.set_cons_zero]
    repeat wtm_at "z"
    rcases Nat.lt_or_ge p.length pre.length with hlt | hge
    · rw [hat _ hlt, List.getElem?_eq_getElem hlt] at hx
      obtain rfl : (pre[p.length], pre[p.length]) = x := Option.some.inj hx
      have hsg := sm_st hw (g1 pre[p.length] (List.mem_append_left _ (List.getElem_mem hlt)))
      refine bv_neD hsg hsg ?_
      rw [eqv_refl _ hsg.lay]
      repeat wtm_at "z"
      rw [Bool.not_true]
      repeat wtm_at "z"
      exact ⟨rfl, by rw [List.length_append, List.length_singleton]; omega, _, _, rfl⟩
    · have hpe : p.length = pre.length := by omega
      rw [hpe, hat2] at hx
      obtain rfl := Option.some.inj hx
      have hs1 := sm_st (p := (u, deedR w u r1)) hw hug
      have hs2 := sm_st (p := (u, deedR w u r2)) hw hug
      refine bv_neD hs1 hs2 ?_
      have eq0 : PyData.eqv (stD (u, deedR w u r1)) (stD (u, deedR w u r2)) = false := by
        show (PyData.eqv u.d u.d && (PyData.eqv (actD (deedR w u r1)) (actD (deedR w u r2)) && true)) = false
        rw [eqv_actD, decide_eq_false hd]
        simp
      rw [eq0]
      repeat wtm_at "z"
      rw [Bool.not_false]
      repeat wtm_at "z"
      refine bv_eqD (sm_sd hw hug) (sm_sd hw hug) ?_
      rw [eqv_refl _ (sm_sd hw hug).lay]
      repeat wtm_at "z"
      exact ⟨rfl, rfl⟩
  · rintro ρ s' ⟨rfl, hp, x6, x7, rfl⟩
    exfalso
    rw [List.length_zip, List.length_append, List.length_append, List.length_cons, List.length_cons] at hp
    omega
def partS : List (Option Bool) → Bool
  | a :: b :: _ => !decide (a = b)
  | _ => false
theorem len2 {α : Type} {as : List α} (h : as.length = 2) : ∃ a b, as = [a, b] := by
  match as, h with
  | [a, b], _ => exact ⟨a, b, rfl⟩
theorem plam0_eq (as : List (Option Bool)) (s : Dk) (h : as.length = 2) : m_lam0 [.d (.list (as.map actD))] s = .ok (.d (.bool (partS as))) s := by
  obtain ⟨a, b, rfl⟩ := len2 h
  refine w_eq ?_
  unfold m_lam0 b_lam0 runL
  dsimp only [List.map, List.replicate, List.append, HAppend.hAppend, Append.append]
  repeat wtm_at "z"
  refine bv_neD (sm_act a) (sm_act b) ?_
  rw [eqv_actD]
  exact ⟨rfl, rfl⟩
theorem plam1_eq (as : List (Option Bool)) (s : Dk) (h : as.length = 2) : m_lam1 [.d (.list (as.map actD))] s = .ok (.d (.bool (partS as))) s := by
  obtain ⟨a, b, rfl⟩ := len2 h
  refine w_eq ?_
  unfold m_lam1 b_lam1 runL
  dsimp only [List.map, List.replicate, List.append, HAppend.hAppend, Append.append]
  repeat wtm_at "z"
  refine bv_neD (sm_act a) (sm_act b) ?_
  rw [eqv_actD]
  exact ⟨rfl, rfl⟩
theorem partS_not (as : List (Option Bool)) (h : partS as = true) (hl : as.length = 2) : allA false as = false := by
  obtain ⟨a, b, rfl⟩ := len2 hl
  cases a with
  | none => rfl
  | some c =>
    cases b with
    | none => cases c <;> rfl
    | some d => cases c <;> cases d <;> first | rfl | cases h
theorem allA_swap {w : Wh} {r1 r2 : List Ln} {t : Sd} (b : Bool) : allA b (actsR w [r1, r2] t) = allA b (actsR w [r2, r1] t) := by
  show (decide (deedR w t r1 = some b) && (decide (deedR w t r2 = some b) && true)) = (decide (deedR w t r2 = some b) && (decide (deedR w t r1 = some b) && true))
  rw [Bool.and_true, Bool.and_true, Bool.and_comm]
theorem partS_swap {w : Wh} {r1 r2 : List Ln} {t : Sd} : partS (actsR w [r1, r2] t) = partS (actsR w [r2, r1] t) := by
  show (!decide (deedR w t r1 = deedR w t r2)) = !decide (deedR w t r2 = deedR w t r1)
  congr 1
  exact decide_eq_decide.mpr ⟨Eq.symm, Eq.symm⟩
theorem wlkN_swap {w : Wh} {r1 r2 : List Ln} : ∀ (n : Nat) (t : Sd), wlkN w [r1, r2] n t = wlkN w [r2, r1] n t
  | 0, t => rfl
  | n + 1, t => by
    show (if allA false (actsR w [r1, r2] t) = true then wlkN w [r1, r2] n (afterL t false 0) else t) = (if allA false (actsR w [r2, r1] t) = true then wlkN w [r2, r1] n (afterL t false 0) else t)
    rw [allA_swap, wlkN_swap n]
theorem wlk_swap {w : Wh} {r1 r2 : List Ln} (t : Sd) : wlk w [r1, r2] t = wlk w [r2, r1] t := wlkN_swap _ t
theorem arr_swap {w : Wh} {r1 r2 : List Ln} {t : Sd} {q : List Int} (h : ArrQ w [r1, r2] t q) : ArrQ w [r2, r1] t q := by
  induction h with
  | zero h => exact .zero h
  | @succ t q z h ha hz ih =>
    have e := wlk_swap (w := w) (r1 := r1) (r2 := r2) t
    rw [e]
    refine .succ ih ?_ hz
    rw [allA_swap, ← e]
    exact ha
theorem goodRs2 {r1 r2 : List Ln} (h1 : GoodRu 11 2 r1) (h2 : GoodRu 11 2 r2) : GoodRs [r1, r2] := ⟨by simp, by simp, fun x hx l hl => by
  have key : ∀ {r : List Ln}, GoodRu 11 2 r → l ∈ r → l.ts.length ≤ 1000 ∧ ∀ c ∈ l.ts, c.what ∈ whatsL ∧ Sm 0 10 (.str c.what) := fun {r} h hl => ⟨by have := (h.ts l hl).1; omega, fun c hc => ⟨((h.ts l hl).2 c hc).w, whats_sm ((h.ts l hl).2 c hc).w⟩⟩
  rcases List.mem_cons.mp hx with rfl | hx
  · exact key h1 hl
  · rw [List.mem_singleton.mp hx] at hl
    exact key h2 hl⟩
def FindsP (w : Wh) (r1 r2 : List Ln) (t : Sd) (q : List Int) : Prop := ArrQ w [r1, r2] t q ∧ partS (actsR w [r1, r2] (wlk w [r1, r2] t)) = true ∧ ∀ t' q', ArrQ w [r1, r2] t' q' → q'.length < q.length → partS (actsR w [r1, r2] (wlk w [r1, r2] t')) = false
def NoneP (w : Wh) (r1 r2 : List Ln) : Prop := ∀ t q, ArrQ w [r1, r2] t q → partS (actsR w [r1, r2] (wlk w [r1, r2] t)) = false
theorem findsP_swap {w : Wh} {r1 r2 : List Ln} {t : Sd} {q : List Int} (h : FindsP w r1 r2 t q) : FindsP w r2 r1 t q :=
  ⟨arr_swap h.1, by rw [← wlk_swap, ← partS_swap]; exact h.2.1, fun t' q' ha hl => by rw [← wlk_swap, ← partS_swap]; exact h.2.2 t' q' (arr_swap ha) hl⟩
theorem noneP_swap {w : Wh} {r1 r2 : List Ln} (h : NoneP w r1 r2) : NoneP w r2 r1 := fun t q ha => by
  rw [← wlk_swap, ← partS_swap]
  exact h t q (arr_swap ha)
def DueP (w : Wh) (r1 r2 : List Ln) (d : PyData) : Prop := (∃ t q, FindsP w r1 r2 t q ∧ d = .int (q.length : Nat)) ∨ (NoneP w r1 r2 ∧ d = .none)
theorem dueP_swap {w : Wh} {r1 r2 : List Ln} {d : PyData} (h : DueP w r1 r2 d) : DueP w r2 r1 d := h.imp (fun ⟨t, q, h, e⟩ => ⟨t, q, findsP_swap h, e⟩) fun ⟨h, e⟩ => ⟨noneP_swap h, e⟩
theorem parted_ok (w : Wh) {most : Int} (hw : GoodWh most w) (hm : most ≤ 2000) {r1 r2 : List Ln} (h1 : GoodRu 11 2 r1) (h2 : GoodRu 11 2 r2) (s : Dk) : W (m_parted [.d w.d, .d (ruD r1), .d (ruD r2)] s) fun y s' => s' = s ∧ ((∃ t q, FindsP w r1 r2 t q ∧ q.length ≤ 3000 ∧ y = .d (iT q)) ∨ (NoneP w r1 r2 ∧ y = .d .none)) := by
  unfold m_parted b_parted
  repeat wtm_at "z"
  refine first_queue_ok w hw hm (rs := [r1, r2]) (goodRs2 h1 h2) partS (nl := 0) (F := m_lam0) rfl (fun as s h => plam0_eq as s h) (fun t q h1 h2 h3 h4 => ?_) fun h => ?_
  · repeat wtm_at "z"
    exact ⟨rfl, .inl ⟨t, q, ⟨h1, h3, h4⟩, h2, rfl⟩⟩
  · repeat wtm_at "z"
    exact ⟨rfl, .inr ⟨h, rfl⟩⟩
theorem law_true : LawTrue 9 b_law := by
  intro ns p p0 ne hn
  suffices h : W (b_law (.no :: .v (.r (.ref p)) :: List.replicate 9 .no) ⟨p, p0, ns, 0, 0, 0, ne⟩) (fun fl _ => fl = .rt (.d (.bool true))) by
    obtain ⟨fl, s, e, rfl⟩ := h.ok
    exact ⟨s, e⟩
  have hs : Dks p 0 ⟨p, p0, ns, 0, 0, 0, ne⟩ := ⟨⟨Int.le_refl _, Int.le_refl _, Int.le_refl _⟩, rfl⟩
  generalize (⟨p, p0, ns, 0, 0, 0, ne⟩ : Dk) = s at *
  have sz := sizeLine_big
  simp only [List.replicate]
  unfold b_law
  repeat wtm_at "z"
  · refine for_inv (fun n ρ s => Dks p (2000 * n) s ∧ ∃ x2 x3 x4 x5 x6 x7 x8 x9 x10, ρ = [.no, .v (.r (.ref p)), x2, x3, x4, x5, x6, x7, x8, x9, x10]) (rngD 0 (5 : Int).toNat) 0 ⟨hs.le (by omega), _, _, _, _, _, _, _, _, _, rfl⟩ ?_ ?_
    · rintro n d hd ρ s ⟨hs, x2, x3, x4, x5, x6, x7, x8, x9, x10, rfl⟩
      obtain ⟨hn8, rfl⟩ := rng_at hd
      have hn8 : n < 5 := hn8
      rw [Int.zero_add, Nat.zero_add] at *
      refine ⟨_, rfl, ?_⟩
      simp only [List.set_cons_succ, List.set_cons_zero]
      repeat wtm_at "z"
      refine wheel_ok (by decide) hs (by omega) fun w s1 hw hs1 => ?_
      have hlk := hw.look
      repeat wtm_at "z"
      · refine for_inv (fun m ρ s => Dks p (2000 * (n : Int) + 41 + 200 * m) s ∧ ∃ x4 x5 x6 x7 x8 x9 x10, ρ = [.no, .v (.r (.ref p)), .v (.d (.int n)), .v (.d w.d), x4, x5, x6, x7, x8, x9, x10]) (rngD 0 (3 : Int).toNat) 0 ⟨hs1.le (by omega), _, _, _, _, _, _, _, rfl⟩ ?_ ?_
        · rintro m d hd ρ s ⟨hs, x4, x5, x6, x7, x8, x9, x10, rfl⟩
          obtain ⟨hm6, rfl⟩ := rng_at hd
          have hm6 : m < 3 := hm6
          refine ⟨_, rfl, ?_⟩
          simp only [List.set_cons_succ, List.set_cons_zero]
          repeat wtm_at "z"
          refine rule_ok hs (by omega) fun r s2 hr hs2 => ?_
          repeat wtm_at "z"
          refine like_ok hw hr hs2 (by omega) fun o s3 hoo hs3 => ?_
          have hr11 : GoodRu 11 2 r := hr.le (by decide) (by decide)
          repeat wtm_at "z"
          have hdue : W (m__law_first [.d w.d, .d (.list ([r, o].map ruD)), .f 1] s3) fun y s' => s' = s3 ∧ ∃ d, y = .d d ∧ DueP w r o d :=
            lfirst_ok w hw (by decide) (rs := [r, o]) (goodRs2 hr11 hoo) partS (fun as h hl => partS_not as h hl) (nl := 1) (F := m_lam1) rfl (fun as s h => plam1_eq as s h) (fun t q h1 h2 h3 => ⟨rfl, _, rfl, .inl ⟨t, q, ⟨h1, h2, h3⟩, rfl⟩⟩) fun h => ⟨rfl, _, rfl, .inr ⟨h, rfl⟩⟩
          refine hdue.mono ?_
          rintro y0 s4 ⟨rfl, due, rfl, hD⟩
          repeat wtm_at "z"
          refine for_pre (fun p : List Ln × List Ln => PyData.tuple [ruD p.1, ruD p.2]) (fun _ ρ s' => s' = s4 ∧ ∃ x8 x9 x10, ρ = [.no, .v (.r (.ref p)), .v (.d (.int n)), .v (.d w.d), .v (.d (.int (0 + m))), .v (.d (ruD r)), .v (.d (ruD o)), .v (.d due), x8, x9, x10]) [(r, o), (o, r)] ⟨rfl, _, _, _, rfl⟩ ?_ ?_
          · rintro pre x post ep ρ s' ⟨rfl, x8, x9, x10, rfl⟩
            have hx : x ∈ [(r, o), (o, r)] := by rw [ep]; simp
            have hf : GoodRu 11 2 x.1 ∧ GoodRu 11 2 x.2 ∧ DueP w x.1 x.2 due := by
              rcases List.mem_cons.mp hx with rfl | hx
              · exact ⟨hr11, hoo, hD⟩
              · rw [List.mem_singleton.mp hx]
                exact ⟨hoo, hr11, dueP_swap hD⟩
            obtain ⟨a, b⟩ := x
            obtain ⟨ga, gb, hd2⟩ := hf
            dsimp only at ga gb hd2
            obtain ⟨y, s'', e, rfl, hy⟩ := (parted_ok w hw (by decide) ga gb s').ok
            refine ⟨_, rfl, ?_⟩
            simp only [List.set_cons_succ, List.set_cons_zero]
            repeat wtm_at "z"
            refine w_of e ?_
            repeat wtm_at "z"
            rcases hy with ⟨t, q, ⟨ha, hS, hmin⟩, hq3, rfl⟩ | ⟨hno, rfl⟩
            · rcases hd2 with ⟨t', q', ⟨ha', hS', hmin'⟩, rfl⟩ | ⟨hno, rfl⟩
              · have hqz := arr_zs hw ha
                have hleq : q'.length = q.length := by
                  rcases Nat.lt_trichotomy q'.length q.length with h | h | h
                  · have := hmin t' q' ha' h
                    rw [hS'] at this; cases this
                  · exact h
                  · have := hmin' t q ha h
                    rw [hS] at this; cases this
                have hdne : deedR w (wlk w [a, b] t) a ≠ deedR w (wlk w [a, b] t) b := fun e2 => by
                  have hS : (!decide (deedR w (wlk w [a, b] t) a = deedR w (wlk w [a, b] t) b)) = true := hS
                  rw [decide_eq_true e2] at hS
                  cases hS
                refine bv (op := opIs) (r := .bool false) rfl ?_
                repeat wtm_at "z"
                refine bv (op := opIs) (r := .bool false) rfl ?_
                repeat wtm_at "z"
                rw [show (!(false == false)) = false from rfl]
                repeat wtm_at "z"
                refine bv (op := opIsNot) (r := .bool true) rfl ?_
                repeat wtm_at "z"
                rw [List.length_map, hleq, decide_eq_true rfl, Bool.not_true]
                repeat wtm_at "z"
                refine bv (op := opIsNot) (r := .bool true) rfl ?_
                repeat wtm_at "z"
                refine w_of (do_part_eq w hw ga gb ha hq3 hdne _) ?_
                repeat wtm_at "z"
                rw [Bool.not_true]
                repeat wtm_at "z"
                refine w_of e ?_
                repeat wtm_at "z"
                have sq : Sm 1 3000 (iT q) := (sm_iT fun x hx => by have := hw.zs x (hqz x hx); have := hw.room; omega).le (Nat.le_refl _) hq3
                refine cv_repr' sq ?_
                repeat wtm_at "z"
                refine cv_repr' sq ?_
                refine bv_neSame sq ?_
                repeat wtm_at "z"
                exact ⟨rfl, _, _, _, rfl⟩
              · have := hno t q ha
                rw [hS] at this; cases this
            · rcases hd2 with ⟨t', q', ⟨ha', hS', hmin'⟩, rfl⟩ | ⟨_, rfl⟩
              · have := hno t' q' ha'
                rw [hS'] at this; cases this
              · refine bv (op := opIs) (r := .bool true) rfl ?_
                repeat wtm_at "z"
                refine bv (op := opIs) (r := .bool true) rfl ?_
                repeat wtm_at "z"
                rw [show (!(true == true)) = false from rfl]
                repeat wtm_at "z"
                refine bv (op := opIsNot) (r := .bool false) rfl ?_
                repeat wtm_at "z"
                refine bv (op := opIsNot) (r := .bool false) rfl ?_
                repeat wtm_at "z"
                refine w_of e ?_
                repeat wtm_at "z"
                refine cv_repr' sm_none ?_
                repeat wtm_at "z"
                refine cv_repr' sm_none ?_
                refine bv_neSame sm_none ?_
                repeat wtm_at "z"
                exact ⟨rfl, _, _, _, rfl⟩
          · rintro ρ s' ⟨rfl, x8, x9, x10, rfl⟩
            repeat wtm_at "z"
            refine (parted_ok w hw (by decide) hr11 hr11 s').mono ?_
            rintro y s'' ⟨rfl, hy⟩
            rcases hy with ⟨t, q, ⟨ha, hS, hmin⟩, hq3, rfl⟩ | ⟨hno, rfl⟩
            · have hS : (!decide (deedR w (wlk w [r, r] t) r = deedR w (wlk w [r, r] t) r)) = true := hS
              rw [decide_eq_true rfl] at hS
              cases hS
            · repeat wtm_at "z"
              refine bv (op := opIsNot) (r := .bool false) rfl ?_
              repeat wtm_at "z"
              exact ⟨hs3.le (by omega), _, _, _, _, _, _, _, rfl⟩
        · rintro ρ s ⟨hs, x4, x5, x6, x7, x8, x9, x10, rfl⟩
          rw [Nat.zero_add, rng_len] at hs
          repeat wtm_at "z"
          exact ⟨hs.le (by omega), _, _, _, _, _, _, _, _, _, rfl⟩
      · decide
    · rintro ρ s ⟨hs, x2, x3, x4, x5, x6, x7, x8, x9, x10, rfl⟩
      repeat wtm_at "z"
      rfl
  · decide
theorem df_then {G : Prop} {K : PySem.W.Frag} {h : Heap} {mg : Str → Option Value} {nm : Str} {st : Stmt} {f : Addr} {oc : Value} {od an : Option Addr} {sl : Array (Option Value)} {kV dc pm cd ct : Value} (X : K.In h) (N : h.Ns mainGlobals mg)
    (a : PySem.W.nsIn K mainGlobals nm = some (some (.ref f))) (l : K.lookup f = some ⟨oc, od, .func (PySem.W.fnOf nm nm (defArgs st) (defBody st) (defScope st) .none kV dc pm an cd ct), sl⟩)
    (c : PySem.W.codeIn K cd nm = true) (k : PySem.W.keepIn K (.ref f) = true) (z : Df K mg nm st → G) : G := z ⟨f, _, fun_mk l c k, PySem.W.mg_of X N a⟩
theorem df_thenC {G : Prop} {K : PySem.W.Frag} {h : Heap} {mg : Str → Option Value} {nm : Str} {st : Stmt} {f : Addr} {oc : Value} {od an : Option Addr} {sl : Array (Option Value)} {kV dc pm ct : Value} {c P : Addr} (X : K.In h) (N : h.Ns mainGlobals mg)
    (a : PySem.W.nsIn K mainGlobals nm = some (some (.ref f))) (l : K.lookup f = some ⟨oc, od, .func (PySem.W.fnOf nm nm (defArgs st) (defBody st) (defScope st) .none kV dc pm an (.ref c) ct), sl⟩)
    (cc : PySem.W.codeIn K (.ref c) nm = true) (k : PySem.W.keepIn K (.ref f) = true) (e : PySem.W.codeHdIn K c P = true) (z : (d : Df K mg nm st) → MkAt K d.fd P → G) : G := z ⟨f, _, fun_mk l cc k, PySem.W.mg_of X N a⟩ ⟨c, rfl, e⟩
theorem nb_then {G : Prop} {K : PySem.W.Frag} {h : Heap} {mg : Str → Option Value} {nm : Str} (X : K.In h) (N : h.Ns mainGlobals mg) (a : PySem.W.nsIn K mainGlobals nm = some none) (z : mg nm = none → G) : G := z (PySem.W.mg_none_of X N a)
theorem ct_then {G : Prop} {K : PySem.W.Frag} {h : Heap} {mg : Str → Option Value} {nm : Str} {v : Value} (X : K.In h) (N : h.Ns mainGlobals mg) (a : PySem.W.nsIn K mainGlobals nm = some (some v)) (z : mg nm = some v → G) : G := z (PySem.W.mg_of X N a)
theorem law_binds {K : PySem.W.Frag} {f : Addr} {fd : FuncData} (F : Fun K "law" "law" s_law f fd) : ∀ (s : Shared) (u : Value), BindsTo s fd ⟨[u], []⟩ [("_law_script", u)] := by
  obtain ⟨oc, od, kV, doc, pm, an, cdv, ct, osl, rfl, lk, hcd⟩ := F.ex
  exact fun s u => .of_eq rfl
theorem fin {l : PySem.W.OpenLaw} {w : World} {K : PySem.W.Frag} {mg : Str → Option Value} {fa : Addr} (ht : LawTrue 9 b_law) (hN : ∀ p ∈ tabs, K.lookup p.1 = none) (hmg : mg "law" = some (.ref fa)) (T : Nonempty (Tx K mg)) :
    ∃ fd : FuncData, (∀ (s : Shared) (u : Value), BindsTo s fd ⟨[u], []⟩ [("_law_script", u)]) ∧ (∀ p ∈ tabs, K.lookup p.1 = none ∧ ∃ c, PySem.W.codeHdIn K c p.1 = true) ∧ ∀ base : Heap, K.In base → base.Ns mainGlobals mg → TabsB base mg → FnG l.prog w K mg base CX0 8 fa fd ["_law_script"] (spLaw K) := by
  obtain ⟨T⟩ := T
  have e := T.d_law.g
  rw [hmg] at e
  have e2 : fa = T.d_law.f := by injection e with e; injection e
  subst e2
  have hMk : ∀ p ∈ tabs, ∃ c, PySem.W.codeHdIn K c p.1 = true := by
    intro p hp
    simp only [tabs, List.mem_cons, List.not_mem_nil, or_false] at hp
    rcases hp with rfl | rfl
    · obtain ⟨c, _, e⟩ := T.k_parted; exact ⟨c, e⟩
    · obtain ⟨c, _, e⟩ := T.k_law; exact ⟨c, e⟩
  exact ⟨T.d_law.fd, law_binds T.d_law.F, fun p hp => ⟨hN p hp, hMk p hp⟩, fun base _ _ hM => ok_law (B := ⟨l.prog, K, w, fun _ => none⟩) rfl rfl rfl T hM ht⟩
theorem walk {l : PySem.W.OpenLaw} {q : Program} {loose : List Str} {XP : (Str → Option Value) → Heap → Prop} {YP : World → Heap → Prop} {d : DefRec} {K : Params → PySem.W.Frag} (hn : l.most = some 63) (hdf : d.params.defaults = [])
    (hY : ∀ (w : World) (h : Heap), YP w h → (K w.params).In h ∧ ∀ p ∈ tabs, h.get? p.1 = some (PySem.W.tabObj #[]))
    (F : ∀ (w : World) (mg : Str → Option Value) (fa : Addr) (h : Heap), (K w.params).In h → h.Ns mainGlobals mg → mg d.name = some (.ref fa) →
      ∃ fd : FuncData, (∀ (s : Shared) (u : Value), BindsTo s fd ⟨[u], []⟩ [("_law_script", u)]) ∧ (∀ p ∈ tabs, (K w.params).lookup p.1 = none ∧ ∃ c, PySem.W.codeHdIn (K w.params) c p.1 = true) ∧ ∀ base : Heap, (K w.params).In base → base.Ns mainGlobals mg → TabsB base mg → FnG l.prog w (K w.params) mg base CX0 8 fa fd ["_law_script"] (spLaw (K w.params))) :
    PySem.W.WalkO q loose XP YP l.row.toRowW d [] (fun f vs => PySem.call f vs) :=
  walk_ofT (n := 63) (k := 8) (x := "_law_script") (sp := fun w => spLaw (K w.params)) hn (by decide) hdf ⟨rfl, by decide, by decide⟩ hY F (fun _ _ a ns hl hT hS => ⟨a, ns, rfl, hS, hl, fun p hp => tabO_nil (hT p hp), fun _ => rfl⟩)
end LK
open PySem PySem.W PyProof.Rows
set_option maxRecDepth 100000 in
set_option maxHeartbeats 0 in
theorem PySem.Challenge.cw_wheelfill_k39_rules_that_part_holds : PySem.Challenge.rw_wheelfill_k39_rules_that_part.Holds := by
  w_on; o_law; k_head; (case hw => w_witness2)
  k_fill
  refine LK.walk (l := PySem.Challenge.rw_wheelfill_k39_rules_that_part) rfl rfl (fun w h Y => ⟨PySem.W.km_in_of Y, fun p hp => PySem.W.km_tabs_of Y p.1 (List.mem_map.mpr ⟨p, hp, rfl⟩ : p.1 ∈ DL.tabs.map (·.1))⟩) ?F
  case F =>
    intro w mg fa h KX G hmg
    refine LK.fin LK.law_true ?tabsN hmg ?T
    case tabsN =>
      intro p hp
      simp only [DL.tabs, List.mem_cons, List.not_mem_nil, or_false] at hp
      rcases hp with rfl | rfl <;> kernel_rfl
    refine' LK.df_then (nm := "lean") (st := LK.s_lean) KX G ?a ?l ?c ?k ?_
    (case a => k_is); (case l => k_is); (case c => k_is); (case k => k_is)
    intro d_lean
    refine' LK.df_then (nm := "is_upright") (st := LK.s_is_upright) KX G ?a ?l ?c ?k ?_
    (case a => k_is); (case l => k_is); (case c => k_is); (case k => k_is)
    intro d_is_upright
    refine' LK.df_then (nm := "rows_of") (st := LK.s_rows_of) KX G ?a ?l ?c ?k ?_
    (case a => k_is); (case l => k_is); (case c => k_is); (case k => k_is)
    intro d_rows_of
    refine' LK.df_then (nm := "lines") (st := LK.s_lines) KX G ?a ?l ?c ?k ?_
    (case a => k_is); (case l => k_is); (case c => k_is); (case k => k_is)
    intro d_lines
    refine' LK.df_then (nm := "starts") (st := LK.s_starts) KX G ?a ?l ?c ?k ?_
    (case a => k_is); (case l => k_is); (case c => k_is); (case k => k_is)
    intro d_starts
    refine' LK.df_then (nm := "boarded_loads") (st := LK.s_boarded_loads) KX G ?a ?l ?c ?k ?_
    (case a => k_is); (case l => k_is); (case c => k_is); (case k => k_is)
    intro d_boarded_loads
    refine' LK.df_then (nm := "turned_loads") (st := LK.s_turned_loads) KX G ?a ?l ?c ?k ?_
    (case a => k_is); (case l => k_is); (case c => k_is); (case k => k_is)
    intro d_turned_loads
    refine' LK.df_then (nm := "may") (st := LK.s_may) KX G ?a ?l ?c ?k ?_
    (case a => k_is); (case l => k_is); (case c => k_is); (case k => k_is)
    intro d_may
    refine' LK.df_then (nm := "after") (st := LK.s_after) KX G ?a ?l ?c ?k ?_
    (case a => k_is); (case l => k_is); (case c => k_is); (case k => k_is)
    intro d_after
    refine' LK.df_then (nm := "numbers_of") (st := LK.s_numbers_of) KX G ?a ?l ?c ?k ?_
    (case a => k_is); (case l => k_is); (case c => k_is); (case k => k_is)
    intro d_numbers_of
    refine' LK.df_then (nm := "deed") (st := LK.s_deed) KX G ?a ?l ?c ?k ?_
    (case a => k_is); (case l => k_is); (case c => k_is); (case k => k_is)
    intro d_deed
    refine' LK.df_then (nm := "walked") (st := LK.s_walked) KX G ?a ?l ?c ?k ?_
    (case a => k_is); (case l => k_is); (case c => k_is); (case k => k_is)
    intro d_walked
    refine' LK.df_then (nm := "first_queue") (st := LK.s_first_queue) KX G ?a ?l ?c ?k ?_
    (case a => k_is); (case l => k_is); (case c => k_is); (case k => k_is)
    intro d_first_queue
    refine' LK.df_thenC (nm := "parted") (st := LK.s_parted) (P := 95) KX G ?a ?l ?c ?k ?e ?_
    (case a => k_is); (case l => k_is); (case c => k_is); (case k => k_is); (case e => kernel_rfl)
    intro d_parted k_parted
    refine' LK.df_then (nm := "_law_draw") (st := LK.s__law_draw) KX G ?a ?l ?c ?k ?_
    (case a => k_is); (case l => k_is); (case c => k_is); (case k => k_is)
    intro d__law_draw
    refine' LK.df_then (nm := "_law_one") (st := LK.s__law_one) KX G ?a ?l ?c ?k ?_
    (case a => k_is); (case l => k_is); (case c => k_is); (case k => k_is)
    intro d__law_one
    refine' LK.df_then (nm := "_law_count") (st := LK.s__law_count) KX G ?a ?l ?c ?k ?_
    (case a => k_is); (case l => k_is); (case c => k_is); (case k => k_is)
    intro d__law_count
    refine' LK.df_then (nm := "_law_wheel") (st := LK.s__law_wheel) KX G ?a ?l ?c ?k ?_
    (case a => k_is); (case l => k_is); (case c => k_is); (case k => k_is)
    intro d__law_wheel
    refine' LK.df_then (nm := "_law_lean") (st := LK.s__law_lean) KX G ?a ?l ?c ?k ?_
    (case a => k_is); (case l => k_is); (case c => k_is); (case k => k_is)
    intro d__law_lean
    refine' LK.df_then (nm := "_law_fits") (st := LK.s__law_fits) KX G ?a ?l ?c ?k ?_
    (case a => k_is); (case l => k_is); (case c => k_is); (case k => k_is)
    intro d__law_fits
    refine' LK.df_then (nm := "_law_rows") (st := LK.s__law_rows) KX G ?a ?l ?c ?k ?_
    (case a => k_is); (case l => k_is); (case c => k_is); (case k => k_is)
    intro d__law_rows
    refine' LK.df_then (nm := "_law_behind") (st := LK.s__law_behind) KX G ?a ?l ?c ?k ?_
    (case a => k_is); (case l => k_is); (case c => k_is); (case k => k_is)
    intro d__law_behind
    refine' LK.df_then (nm := "_law_rule") (st := LK.s__law_rule) KX G ?a ?l ?c ?k ?_
    (case a => k_is); (case l => k_is); (case c => k_is); (case k => k_is)
    intro d__law_rule
    refine' LK.df_then (nm := "_law_deed_of") (st := LK.s__law_deed_of) KX G ?a ?l ?c ?k ?_
    (case a => k_is); (case l => k_is); (case c => k_is); (case k => k_is)
    intro d__law_deed_of
    refine' LK.df_then (nm := "_law_starts") (st := LK.s__law_starts) KX G ?a ?l ?c ?k ?_
    (case a => k_is); (case l => k_is); (case c => k_is); (case k => k_is)
    intro d__law_starts
    refine' LK.df_then (nm := "_law_run") (st := LK.s__law_run) KX G ?a ?l ?c ?k ?_
    (case a => k_is); (case l => k_is); (case c => k_is); (case k => k_is)
    intro d__law_run
    refine' LK.df_then (nm := "_law_first") (st := LK.s__law_first) KX G ?a ?l ?c ?k ?_
    (case a => k_is); (case l => k_is); (case c => k_is); (case k => k_is)
    intro d__law_first
    refine' LK.df_then (nm := "_law_like") (st := LK.s__law_like) KX G ?a ?l ?c ?k ?_
    (case a => k_is); (case l => k_is); (case c => k_is); (case k => k_is)
    intro d__law_like
    refine' LK.df_then (nm := "_law_do_part") (st := LK.s__law_do_part) KX G ?a ?l ?c ?k ?_
    (case a => k_is); (case l => k_is); (case c => k_is); (case k => k_is)
    intro d__law_do_part
    refine' LK.df_then (nm := "_law_deck") (st := LK.s__law_deck) KX G ?a ?l ?c ?k ?_
    (case a => k_is); (case l => k_is); (case c => k_is); (case k => k_is)
    intro d__law_deck
    refine' LK.df_thenC (nm := "law") (st := LK.s_law) (P := 196) KX G ?a ?l ?c ?k ?e ?_
    (case a => k_is); (case l => k_is); (case c => k_is); (case k => k_is); (case e => kernel_rfl)
    intro d_law k_law
    refine' LK.nb_then (nm := "abs") KX G ?a ?_; (case a => k_is)
    intro z_abs
    refine' LK.nb_then (nm := "all") KX G ?a ?_; (case a => k_is)
    intro z_all
    refine' LK.nb_then (nm := "dict") KX G ?a ?_; (case a => k_is)
    intro z_dict
    refine' LK.nb_then (nm := "int") KX G ?a ?_; (case a => k_is)
    intro z_int
    refine' LK.nb_then (nm := "len") KX G ?a ?_; (case a => k_is)
    intro z_len
    refine' LK.nb_then (nm := "list") KX G ?a ?_; (case a => k_is)
    intro z_list
    refine' LK.nb_then (nm := "max") KX G ?a ?_; (case a => k_is)
    intro z_max
    refine' LK.nb_then (nm := "range") KX G ?a ?_; (case a => k_is)
    intro z_range
    refine' LK.nb_then (nm := "repr") KX G ?a ?_; (case a => k_is)
    intro z_repr
    refine' LK.nb_then (nm := "sum") KX G ?a ?_; (case a => k_is)
    intro z_sum
    refine' LK.nb_then (nm := "tuple") KX G ?a ?_; (case a => k_is)
    intro z_tuple
    refine' LK.nb_then (nm := "zip") KX G ?a ?_; (case a => k_is)
    intro z_zip
    refine' LK.ct_then (nm := "BOARD") KX G ?a ?_; (case a => k_is)
    intro c_BOARD
    refine' LK.ct_then (nm := "TURN") KX G ?a ?_; (case a => k_is)
    intro c_TURN
    exact ⟨⟨z_abs, z_all, z_dict, z_int, z_len, z_list, z_max, z_range, z_repr, z_sum, z_tuple, z_zip, ⟨_, c_BOARD⟩, ⟨_, c_TURN⟩, d_lean, d_is_upright, d_rows_of, d_lines, d_starts, d_boarded_loads, d_turned_loads, d_may, d_after, d_numbers_of, d_deed, d_walked, d_first_queue, d_parted, d__law_draw, d__law_one, d__law_count, d__law_wheel, d__law_lean, d__law_fits, d__law_rows, d__law_behind, d__law_rule, d__law_deed_of, d__law_starts, d__law_run, d__law_first, d__law_like, d__law_do_part, d__law_deck, d_law, k_parted, k_law⟩⟩
